import PyProof.Rows.All
import Wide.All
import OpenK.AllK
import Wide.FinOn
import HandS.ForMost
import HandS.Walk
import HandS.Wide
import HandS.Defaults
import HandS.IsInst
import KE.KDictZip
import HandS.TupSets
import HandS.TupMul
import KE.SortData
import KE.DataMinMax
import HandS.Head0
import HandS.Head1
import HandS.Head2
import HandS.HeadEnd
import HandS.HeadHook1
import HandS.HeadHook2
import HandS.HeadNt
import PySem.Challenge.RW_hiddenturns_k62_relations_have_a_basis
set_option Elab.async false
set_option linter.all false

set_option maxRecDepth 100000
set_option maxHeartbeats 1000000 -- ht
/-! The value layer: data as trees, slots that hold data or a list of their own, the ghost of a frame. -/
namespace Ht
open PySem PySem.Spec PyProof.Rows L2 -- ht

/-- data -/
inductive D where
  | non | bl (b : Bool) | int (i : Int) | str (x : Str) | lst (xs : List D) | tup (xs : List D) | mu (i : Nat)
/-- a changing object -/
inductive MO where
  | lst (xs : List D)
abbrev Mem := List MO

mutual
inductive Dn (K : PySem.W.Frag) (A : List Addr) (H : Hp) : V → D → Prop
  | non : Dn K A H .non .non
  | bl (b : Bool) : Dn K A H (.bl b) (.bl b)
  | int (i : Int) : Dn K A H (.int i) (.int i)
  | str (x : Str) : Dn K A H (.str x) (.str x)
  | lst {a : Addr} {xs : List V} {ds : List D} : H a = some (.lst xs) → DnAll K A H xs ds → Dn K A H (.ref a) (.lst ds)
  | tup {a : Addr} {xs : List V} {ds : List D} : SqT K H a xs → DnAll K A H xs ds → Dn K A H (.ref a) (.tup ds)
  | mu {a : Addr} {i : Nat} : A[i]? = some a → Dn K A H (.ref a) (.mu i)
inductive DnAll (K : PySem.W.Frag) (A : List Addr) (H : Hp) : List V → List D → Prop
  | nil : DnAll K A H [] []
  | cons {v : V} {vs : List V} {d : D} {ds : List D} : Dn K A H v d → DnAll K A H vs ds → DnAll K A H (v :: vs) (d :: ds)
end

theorem sqT_mono {K : PySem.W.Frag} {H H' : Hp} {a : Addr} {xs : List V} (e : Same H H') (h : SqT K H a xs) : SqT K H' a xs := by
  rcases h with (h | ⟨o, h⟩) | h -- ht
  · exact .inl (.inl (e _ _ h))
  · exact .inl (.inr ⟨o, e _ _ h⟩) -- ht
  · exact .inr h

def Pre (A A' : List Addr) : Prop := ∃ B, A' = A ++ B
theorem Pre.get {A A' : List Addr} (p : Pre A A') {i : Nat} {a : Addr} (h : A[i]? = some a) : A'[i]? = some a := by
  obtain ⟨B, rfl⟩ := p
  rw [List.getElem?_append_left (List.getElem?_eq_some_iff.mp h).1]
  exact h
theorem Pre.refl (A : List Addr) : Pre A A := ⟨[], by simp⟩

mutual
theorem Dn.mono {K : PySem.W.Frag} {A A' : List Addr} {H H' : Hp} (p : Pre A A') (e : Same H H') : ∀ {v : V} {d : D}, Dn K A H v d → Dn K A' H' v d
  | _, _, .non => .non
  | _, _, .bl b => .bl b
  | _, _, .int i => .int i
  | _, _, .str x => .str x
  | _, _, .lst s t => .lst (e _ _ s) (DnAll.mono p e t)
  | _, _, .tup s t => .tup (sqT_mono e s) (DnAll.mono p e t)
  | _, _, .mu h => .mu (p.get h)
theorem DnAll.mono {K : PySem.W.Frag} {A A' : List Addr} {H H' : Hp} (p : Pre A A') (e : Same H H') : ∀ {vs : List V} {ds : List D}, DnAll K A H vs ds → DnAll K A' H' vs ds
  | _, _, .nil => .nil
  | _, _, .cons h t => .cons (Dn.mono p e h) (DnAll.mono p e t)
end

section
variable {K : PySem.W.Frag} {A : List Addr} {H : Hp}
theorem DnAll.length : ∀ {vs : List V} {ds : List D}, DnAll K A H vs ds → vs.length = ds.length
  | _, _, .nil => rfl
  | _, _, .cons _ t => by simp [DnAll.length t]
theorem DnAll.get : ∀ {vs : List V} {ds : List D} {i : Nat} {d : D}, DnAll K A H vs ds → ds[i]? = some d → ∃ v, vs[i]? = some v ∧ Dn K A H v d
  | _, _, _, _, .nil, h => by simp at h
  | _, _, 0, _, .cons h _, e => by simp at e; subst e; exact ⟨_, rfl, h⟩
  | _, _, i + 1, d, .cons _ t, e => by
    obtain ⟨v, h1, h2⟩ := DnAll.get (i := i) (d := d) t (by simpa using e)
    exact ⟨v, by simpa using h1, h2⟩
theorem DnAll.getV : ∀ {vs : List V} {ds : List D} {i : Nat} {v : V}, DnAll K A H vs ds → vs[i]? = some v → ∃ d, ds[i]? = some d ∧ Dn K A H v d
  | _, _, _, _, .nil, h => by simp at h
  | _, _, 0, _, .cons h _, e => by simp at e; subst e; exact ⟨_, rfl, h⟩
  | _, _, i + 1, d, .cons _ t, e => by
    obtain ⟨v, h1, h2⟩ := DnAll.getV (i := i) t (by simpa using e)
    exact ⟨v, by simpa using h1, h2⟩
theorem DnAll.append : ∀ {vs ws : List V} {ds es : List D}, DnAll K A H vs ds → DnAll K A H ws es → DnAll K A H (vs ++ ws) (ds ++ es)
  | _, _, _, _, .nil, h => h
  | _, _, _, _, .cons h t, h2 => .cons h (DnAll.append t h2)
theorem DnAll.take : ∀ {vs : List V} {ds : List D} (n : Nat), DnAll K A H vs ds → DnAll K A H (vs.take n) (ds.take n)
  | _, _, 0, _ => .nil
  | _, _, _ + 1, .nil => .nil
  | _, _, n + 1, .cons h t => .cons h (DnAll.take n t)
theorem DnAll.drop : ∀ {vs : List V} {ds : List D} (n : Nat), DnAll K A H vs ds → DnAll K A H (vs.drop n) (ds.drop n)
  | _, _, 0, h => h
  | _, _, _ + 1, .nil => .nil
  | _, _, n + 1, .cons _ t => DnAll.drop n t
theorem DnAll.set {v : V} {d : D} (h : Dn K A H v d) : ∀ {vs : List V} {ds : List D} (n : Nat), DnAll K A H vs ds → DnAll K A H (vs.set n v) (ds.set n d)
  | _, _, _, .nil => .nil
  | _, _, 0, .cons _ t => .cons h t
  | _, _, n + 1, .cons g t => .cons g (DnAll.set h n t)
theorem DnAll.erase : ∀ {vs : List V} {ds : List D} (n : Nat), DnAll K A H vs ds → DnAll K A H (vs.eraseIdx n) (ds.eraseIdx n)
  | _, _, _, .nil => .nil
  | _, _, 0, .cons _ t => t
  | _, _, n + 1, .cons g t => .cons g (DnAll.erase n t)
theorem DnAll.dropLast {vs : List V} {ds : List D} (h : DnAll K A H vs ds) : DnAll K A H vs.dropLast ds.dropLast := by
  rw [List.dropLast_eq_take, List.dropLast_eq_take, h.length]
  exact h.take _
theorem DnAll.ints : ∀ {vs : List V} {ns : List Int}, DnAll K A H vs (ns.map D.int) → vs = ns.map V.int
  | _, [], h => by cases h; rfl
  | _, n :: ns, h => by
    cases h with
    | cons h t =>
      cases h
      rw [DnAll.ints t]
      rfl
theorem DnAll.ofInts : ∀ {ns : List Int}, DnAll K A H (ns.map V.int) (ns.map D.int)
  | [] => .nil
  | n :: ns => .cons (.int n) DnAll.ofInts
theorem DnAll.bls : ∀ {vs : List V} {ns : List Bool}, DnAll K A H vs (ns.map D.bl) → vs = ns.map V.bl
  | _, [], h => by cases h; rfl
  | _, n :: ns, h => by
    cases h with
    | cons h t =>
      cases h
      rw [DnAll.bls t]
      rfl
end

/-! ### hidden addresses -/
open Classical in
noncomputable def hide (H : Hp) (Z : Addr → Prop) : Hp := fun a => if Z a then none else H a
theorem hide_some {H : Hp} {Z : Addr → Prop} {a : Addr} {x : HO} : hide H Z a = some x ↔ ¬ Z a ∧ H a = some x := by
  unfold hide
  by_cases h : Z a
  · simp [h]
  · simp [h]
theorem hide_same {H : Hp} {Z : Addr → Prop} : Same (hide H Z) H := fun a x h => (hide_some.mp h).2
theorem hide_sub {H H' : Hp} {Z Z' : Addr → Prop} (h : ∀ a x, ¬ Z a → H a = some x → ¬ Z' a ∧ H' a = some x) : Same (hide H Z) (hide H' Z') := fun a x e => hide_some.mpr (h a x (hide_some.mp e).1 (hide_some.mp e).2)

/-! ### slots -/
inductive Sl where
  | no | im (d : D) | ow (ds : List D)
abbrev Rho := List Sl
def Own (ρ : Rho) (o : Nat → Addr) (a : Addr) : Prop := ∃ (i : Nat) (ds : List D), ρ[i]? = some (.ow ds) ∧ o i = a
/-- the ghost of a frame -/
structure Gh where
  H0 : Hp
  Z : Addr → Prop
  A : List Addr
  C : Mem
  o : Nat → Addr
  ρ : Rho
/-- hidden but for one's own lists -/
def Hid0 (Z : Addr → Prop) (A : List Addr) (a : Addr) : Prop := Z a ∨ a ∈ A
def Hid (g : Gh) (a : Addr) : Prop := (g.Z a ∨ a ∈ g.A) ∨ Own g.ρ g.o a
def MOk (K : PySem.W.Frag) (A : List Addr) (H Hh : Hp) (a : Addr) : MO → Prop
  | .lst ds => ∃ xs, H a = some (.lst xs) ∧ DnAll K A Hh xs ds
structure MemOk (K : PySem.W.Frag) (A : List Addr) (C : Mem) (H Hh : Hp) : Prop where
  nd : A.Nodup
  len : C.length = A.length
  at_ : ∀ (i : Nat) (a : Addr) (mo : MO), A[i]? = some a → C[i]? = some mo → MOk K A H Hh a mo
structure Ds (K : PySem.W.Frag) (g : Gh) (H : Hp) (σ : L2.St) : Prop where
  base : ∀ a x, g.H0 a = some x → a ∉ g.A → H a = some x
  zl : ∀ a, g.Z a → H a ≠ none
  al : ∀ a, a ∈ g.A → H a ≠ none
  mem : MemOk K g.A g.C H (hide H (Hid g))
  oinj : ∀ (i j : Nat) (ds es : List D), g.ρ[i]? = some (.ow ds) → g.ρ[j]? = some (.ow es) → g.o i = g.o j → i = j
  ofr : ∀ (i : Nat) (ds : List D), g.ρ[i]? = some (.ow ds) → g.H0 (g.o i) = none ∧ ¬ g.Z (g.o i) ∧ g.o i ∉ g.A
  len : σ.length = g.ρ.length
  im : ∀ (i : Nat) (d : D), g.ρ[i]? = some (.im d) → ∃ v, σ[i]? = some (some v) ∧ Dn K g.A (hide H (Hid g)) v d
  ow : ∀ (i : Nat) (ds : List D), g.ρ[i]? = some (.ow ds) → σ[i]? = some (some (.ref (g.o i))) ∧ ∃ xs, H (g.o i) = some (.lst xs) ∧ DnAll K g.A (hide H (Hid g)) xs ds

/-- the heap goes on: new changing objects were new, nothing is lost -/
structure Step (A A' : List Addr) (H H' : Hp) : Prop where
  ae : ∃ B, A' = A ++ B ∧ ∀ b ∈ B, H b = none
  live : ∀ a, H a ≠ none → H' a ≠ none
/-- .. and what is no changing object stays -/
structure Grow (A A' : List Addr) (H H' : Hp) : Prop where
  ae : ∃ B, A' = A ++ B ∧ ∀ b ∈ B, H b = none
  keep : ∀ a x, a ∉ A → H a = some x → H' a = some x
  al : ∀ a ∈ A, H' a ≠ none
theorem Grow.pre {A A' : List Addr} {H H' : Hp} (g : Grow A A' H H') : Pre A A' := let ⟨B, e, _⟩ := g.ae; ⟨B, e⟩
theorem Step.pre {A A' : List Addr} {H H' : Hp} (g : Step A A' H H') : Pre A A' := let ⟨B, e, _⟩ := g.ae; ⟨B, e⟩
theorem Grow.step {A A' : List Addr} {H H' : Hp} (g : Grow A A' H H') : Step A A' H H' := by
  refine ⟨g.ae, fun a h => ?_⟩
  by_cases ha : a ∈ A
  · exact g.al a ha
  · cases e : H a with
    | none => exact absurd e h
    | some x => rw [g.keep a x ha e]; exact fun z => by cases z
theorem Grow.refl {A : List Addr} {H : Hp} (al : ∀ a ∈ A, H a ≠ none) : Grow A A H H := ⟨⟨[], by simp, by simp⟩, fun _ _ _ h => h, al⟩
theorem Step.refl {A : List Addr} {H : Hp} : Step A A H H := ⟨⟨[], by simp, by simp⟩, fun _ h => h⟩
theorem Step.trans {A A' A'' : List Addr} {H H' H'' : Hp} (a : Step A A' H H') (b : Step A' A'' H' H'') : Step A A'' H H'' := by
  obtain ⟨B, e, hB⟩ := a.ae
  obtain ⟨B', e', hB'⟩ := b.ae
  refine ⟨⟨B ++ B', by rw [e', e, List.append_assoc], fun x hx => ?_⟩, fun x h => b.live x (a.live x h)⟩
  rcases List.mem_append.mp hx with h | h
  · exact hB x h
  · cases q : H x with
    | none => rfl
    | some y => exact absurd (hB' x h) (a.live x (by rw [q]; exact fun z => by cases z))
theorem Grow.trans {A A' A'' : List Addr} {H H' H'' : Hp} (a : Grow A A' H H') (b : Grow A' A'' H' H'') : Grow A A'' H H'' := by
  have st := a.step.trans b.step
  obtain ⟨B, e, hB⟩ := a.ae
  refine ⟨st.ae, fun x y hx h => b.keep x y (fun z => ?_) (a.keep x y hx h), fun x hx => b.al x (by rw [e]; exact List.mem_append_left _ hx)⟩
  rw [e] at z
  rcases List.mem_append.mp z with z | z
  · exact hx z
  · rw [hB x z] at h; cases h
/-- a plain growth (nothing changed) -/
theorem Grow.of {A : List Addr} {H H' : Hp} (al : ∀ a ∈ A, H a ≠ none) (s : Same H H') : Grow A A H H' :=
  ⟨⟨[], by simp, by simp⟩, fun a x _ h => s a x h, fun a ha z => al a ha (s.free z)⟩

/-- what is seen stays seen -/
theorem Grow.seen {A A' : List Addr} {H H' : Hp} (g : Grow A A' H H') {P : Addr → Prop} : Same (hide H (fun a => (P a ∨ a ∈ A))) (hide H' (fun a => (P a ∨ a ∈ A'))) := by
  obtain ⟨B, e, hB⟩ := g.ae
  refine hide_sub fun a x hn h => ?_
  have hA : a ∉ A := fun z => hn (.inr z)
  refine ⟨fun z => ?_, g.keep a x hA h⟩
  rcases z with z | z
  · exact hn (.inl z)
  · rw [e] at z
    rcases List.mem_append.mp z with z | z
    · exact hA z
    · rw [hB a z] at h; cases h
theorem Grow.seenG {g : Gh} {A' : List Addr} {C' : Mem} {H H' : Hp} (gr : Grow g.A A' H H') : Same (hide H (Hid g)) (hide H' (Hid { g with A := A', C := C' })) := by
  obtain ⟨B, e, hB⟩ := gr.ae
  refine hide_sub fun a x hn h => ?_
  have hA : a ∉ g.A := fun z => hn (.inl (.inr z))
  refine ⟨fun z => ?_, gr.keep a x hA h⟩
  rcases z with (z | z) | z
  · exact hn (.inl (.inl z))
  · have z : a ∈ A' := z
    rw [e] at z
    rcases List.mem_append.mp z with z | z
    · exact hA z
    · rw [hB a z] at h; cases h
  · exact hn (.inr z)
theorem hid_weak {g : Gh} {H : Hp} : Same (hide H (Hid g)) (hide H (Hid0 g.Z g.A)) := hide_sub fun a x hn h => ⟨fun z => hn (.inl z), h⟩

/-- the state behind a growth, when the changing objects are told anew -/
theorem Ds.grow {K : PySem.W.Frag} {g : Gh} {H H' : Hp} {σ : L2.St} {A' : List Addr} {C' : Mem} (S : Ds K g H σ) (gr : Grow g.A A' H H') (al : ∀ a ∈ A', H' a ≠ none)
    (m : MemOk K A' C' H' (hide H' (Hid { g with A := A', C := C' }))) : Ds K { g with A := A', C := C' } H' σ := by
  have sn := gr.seenG (C' := C')
  have pr := gr.pre
  obtain ⟨B, e, hB⟩ := gr.ae
  have notB : ∀ a x, a ∉ g.A → H a = some x → a ∉ A' := fun a x hA h z => by
    rw [e] at z
    rcases List.mem_append.mp z with z | z
    · exact hA z
    · rw [hB a z] at h; cases h
  refine ⟨fun a x h0 hA => ?_, fun a hz => gr.step.live a (S.zl a hz), al, m, S.oinj, fun i ds h => ?_, S.len, fun i d h => ?_, fun i ds h => ?_⟩
  · have hA0 : a ∉ g.A := fun z => hA (by show a ∈ A'; rw [e]; exact List.mem_append_left _ z)
    exact gr.keep a x hA0 (S.base a x h0 hA0)
  · obtain ⟨h1, h2, h3⟩ := S.ofr i ds h
    obtain ⟨_, xs, h4, _⟩ := S.ow i ds h
    exact ⟨h1, h2, notB _ _ h3 h4⟩
  · obtain ⟨v, h1, h2⟩ := S.im i d h
    exact ⟨v, h1, h2.mono pr sn⟩
  · obtain ⟨h1, xs, h2, h3⟩ := S.ow i ds h
    exact ⟨h1, xs, gr.keep _ _ (S.ofr i ds h).2.2 h2, h3.mono pr sn⟩
/-- .. when no changing object changed -/
theorem Ds.keep {K : PySem.W.Frag} {g : Gh} {H H' : Hp} {σ : L2.St} (S : Ds K g H σ) (s : Same H H') : Ds K g H' σ := by
  have gr : Grow g.A g.A H H' := Grow.of S.al s
  have sn : Same (hide H (Hid g)) (hide H' (Hid g)) := gr.seenG (C' := g.C)
  refine S.grow (C' := g.C) gr (fun a ha => gr.al a ha) ⟨S.mem.nd, S.mem.len, fun i a mo h1 h2 => ?_⟩
  have q := S.mem.at_ i a mo h1 h2
  cases mo with
  | lst ds =>
    obtain ⟨xs, h3, h4⟩ := q
    exact ⟨xs, s a _ h3, h4.mono (Pre.refl _) sn⟩

/-! ### readings -/
abbrev EF := Rho → Mem → Option (D × Mem)
abbrev LF := Rho → Mem → Option (List D × Mem)
abbrev BF := Rho → Mem → Option (Bool × Mem)
section
variable (K : PySem.W.Frag)
/-- an expression gives f -/
def tV (f : EF) : TE := fun σ H Q => ∃ (g : Gh) (d : D) (C' : Mem), Ds K g H σ ∧ f g.ρ g.C = some (d, C') ∧
  ∀ v H' A', Grow g.A A' H H' → Ds K { g with A := A', C := C' } H' σ → Dn K A' (hide H' (Hid { g with A := A', C := C' })) v d → Q v H'
/-- weakly: one's own lists may be in it -/
def tW (f : EF) : TE := fun σ H Q => ∃ (g : Gh) (d : D) (C' : Mem), Ds K g H σ ∧ f g.ρ g.C = some (d, C') ∧
  ∀ v H' A', Grow g.A A' H H' → Ds K { g with A := A', C := C' } H' σ → Dn K A' (hide H' (Hid0 g.Z A')) v d → Q v H'
/-- a list that is read: itself perhaps one's own, its items not -/
def tL (f : LF) : TE := fun σ H Q => ∃ (g : Gh) (ds : List D) (C' : Mem), Ds K g H σ ∧ f g.ρ g.C = some (ds, C') ∧
  ∀ a xs H' A', Grow g.A A' H H' → Ds K { g with A := A', C := C' } H' σ → (hide H' (Hid0 g.Z A')) a = some (.lst xs) → DnAll K A' (hide H' (Hid { g with A := A', C := C' })) xs ds → Q (.ref a) H'
/-- a new list -/
def tF (f : LF) : TE := fun σ H Q => ∃ (g : Gh) (ds : List D) (C' : Mem), Ds K g H σ ∧ f g.ρ g.C = some (ds, C') ∧
  ∀ p xs H' A', H p = none → p ∉ A' → Grow g.A A' H H' → Ds K { g with A := A', C := C', Z := fun a => g.Z a ∨ a = p } H' σ → H' p = some (.lst xs) →
    DnAll K A' (hide H' (Hid { g with A := A', C := C', Z := fun a => g.Z a ∨ a = p })) xs ds → Q (.ref p) H'
/-- a test -/
def tC (f : BF) : TT := fun σ H Q => ∃ (g : Gh) (b : Bool) (C' : Mem), Ds K g H σ ∧ f g.ρ g.C = some (b, C') ∧
  ∀ H' A', Grow g.A A' H H' → Ds K { g with A := A', C := C' } H' σ → Q b H'
/-- arguments -/
def tA (f : LF) : TA := fun σ H Q => ∃ (g : Gh) (ds : List D) (C' : Mem), Ds K g H σ ∧ f g.ρ g.C = some (ds, C') ∧
  ∀ vs H' A', Grow g.A A' H H' → Ds K { g with A := A', C := C' } H' σ → DnAll K A' (hide H' (Hid { g with A := A', C := C' })) vs ds → Q vs H'
end
/-- consequence -/
theorem PE.cq {X : Cx} {e : Expr} {t t' : TE} (h : PE X e t) (c : ∀ σ H Q, t' σ H Q → t σ H Q) : PE X e t' := ⟨fun pins s σ H Q I q => h.run pins s σ H Q I (c σ H Q q)⟩
theorem PT.cq {X : Cx} {e : Expr} {t t' : TT} (h : PT X e t) (c : ∀ σ H Q, t' σ H Q → t σ H Q) : PT X e t' := ⟨fun pins s σ H Q I q => h.run pins s σ H Q I (c σ H Q q)⟩
theorem PA.cq {X : Cx} {e : List Expr} {t t' : TA} (h : PA X e t) (c : ∀ σ H Q, t' σ H Q → t σ H Q) : PA X e t' := ⟨fun pos pins s σ H Q I q => h.run pos pins s σ H Q I (c σ H Q q)⟩
theorem PS.cq {X : Cx} {e : Stmt} {t t' : TS} (h : PS X e t) (c : ∀ D σ H, t' D σ H → t D σ H) : PS X e t' := ⟨fun pins s σ H Q I q => h.run pins s σ H Q I (c Q σ H q)⟩
theorem PSs.cq {X : Cx} {e : List Stmt} {t t' : TS} (h : PSs X e t) (c : ∀ D σ H, t' D σ H → t D σ H) : PSs X e t' := ⟨fun pins s σ H Q I q => h.run pins s σ H Q I (c Q σ H q)⟩
theorem PI.cq {X : Cx} {tg e : Expr} {t t' : TI} (h : PI X tg e t) (c : ∀ σ H R, t' σ H R → t σ H R) : PI X tg e t' := ⟨fun pins s σ H Q I q => h.run pins s σ H Q I (c σ H Q q)⟩
end Ht


set_option maxRecDepth 100000
set_option maxHeartbeats 1000000 -- ht
/-! The value layer: expressions. -/
namespace Ht
open PySem PySem.Spec PyProof.Rows L2 -- ht

/-! ### in a row -/
section
variable {K : PySem.W.Frag} {σ : L2.St} {H : Hp}
theorem row2 {f h : EF} {R : V → V → Hp → Prop} {g : Gh} {x y : D} {C1 C2 : Mem} (S : Ds K g H σ) (hf : f g.ρ g.C = some (x, C1)) (hh : h g.ρ C1 = some (y, C2))
    (k : ∀ v w H' A', Grow g.A A' H H' → Ds K { g with A := A', C := C2 } H' σ → Dn K A' (hide H' (Hid { g with A := A', C := C2 })) v x → Dn K A' (hide H' (Hid { g with A := A', C := C2 })) w y → R v w H') :
    tV K f σ H fun v H1 => tV K h σ H1 fun w H2 => R v w H2 :=
  ⟨g, x, C1, S, hf, fun v H1 A1 g1 S1 d1 => ⟨{ g with A := A1, C := C1 }, y, C2, S1, hh, fun w H2 A2 g2 S2 d2 =>
    k v w H2 A2 (g1.trans g2) S2 (d1.mono g2.pre (g2.seenG (g := { g with A := A1, C := C1 }) (C' := C2))) d2⟩⟩
theorem row2W {f h : EF} {R : V → V → Hp → Prop} {g : Gh} {x y : D} {C1 C2 : Mem} (S : Ds K g H σ) (hf : f g.ρ g.C = some (x, C1)) (hh : h g.ρ C1 = some (y, C2))
    (k : ∀ v w H' A', Grow g.A A' H H' → Ds K { g with A := A', C := C2 } H' σ → Dn K A' (hide H' (Hid0 g.Z A')) v x → Dn K A' (hide H' (Hid0 g.Z A')) w y → R v w H') :
    tW K f σ H fun v H1 => tW K h σ H1 fun w H2 => R v w H2 :=
  ⟨g, x, C1, S, hf, fun v H1 A1 g1 S1 d1 => ⟨{ g with A := A1, C := C1 }, y, C2, S1, hh, fun w H2 A2 g2 S2 d2 =>
    k v w H2 A2 (g1.trans g2) S2 (d1.mono g2.pre g2.seen) d2⟩⟩
theorem row2L {f h : LF} {R : V → V → Hp → Prop} {g : Gh} {x y : List D} {C1 C2 : Mem} (S : Ds K g H σ) (hf : f g.ρ g.C = some (x, C1)) (hh : h g.ρ C1 = some (y, C2))
    (k : ∀ a b xs ys H' A', Grow g.A A' H H' → Ds K { g with A := A', C := C2 } H' σ → hide H' (Hid0 g.Z A') a = some (.lst xs) → DnAll K A' (hide H' (Hid { g with A := A', C := C2 })) xs x →
      hide H' (Hid0 g.Z A') b = some (.lst ys) → DnAll K A' (hide H' (Hid { g with A := A', C := C2 })) ys y → R (.ref a) (.ref b) H') :
    tL K f σ H fun v H1 => tL K h σ H1 fun w H2 => R v w H2 :=
  ⟨g, x, C1, S, hf, fun a xs H1 A1 g1 S1 s1 d1 => ⟨{ g with A := A1, C := C1 }, y, C2, S1, hh, fun b ys H2 A2 g2 S2 s2 d2 =>
    k a b xs ys H2 A2 (g1.trans g2) S2 (g2.seen a _ s1) (d1.mono g2.pre (g2.seenG (g := { g with A := A1, C := C1 }) (C' := C2))) s2 d2⟩⟩
theorem row2LV {f : LF} {h : EF} {R : V → V → Hp → Prop} {g : Gh} {x : List D} {y : D} {C1 C2 : Mem} (S : Ds K g H σ) (hf : f g.ρ g.C = some (x, C1)) (hh : h g.ρ C1 = some (y, C2))
    (k : ∀ a xs w H' A', Grow g.A A' H H' → Ds K { g with A := A', C := C2 } H' σ → hide H' (Hid0 g.Z A') a = some (.lst xs) → DnAll K A' (hide H' (Hid { g with A := A', C := C2 })) xs x →
      Dn K A' (hide H' (Hid { g with A := A', C := C2 })) w y → R (.ref a) w H') :
    tL K f σ H fun v H1 => tV K h σ H1 fun w H2 => R v w H2 :=
  ⟨g, x, C1, S, hf, fun a xs H1 A1 g1 S1 s1 d1 => ⟨{ g with A := A1, C := C1 }, y, C2, S1, hh, fun w H2 A2 g2 S2 d2 =>
    k a xs w H2 A2 (g1.trans g2) S2 (g2.seen a _ s1) (d1.mono g2.pre (g2.seenG (g := { g with A := A1, C := C1 }) (C' := C2))) d2⟩⟩
/-- a new object, untracked before: nothing changing changed -/
theorem Ds.new {g : Gh} {p : Addr} {o : HO} (S : Ds K g H σ) (hp : H p = none) : Same H (upd H p o) := fun a x h => by
  rw [upd_ne (ne_of_none h hp)]; exact h
theorem Ds.nohid {g : Gh} {p : Addr} (S : Ds K g H σ) (hp : H p = none) : ¬ Hid g p := fun z => by
  rcases z with (z | z) | ⟨i, ds, z, e⟩
  · exact S.zl p z hp
  · exact S.al p z hp
  · obtain ⟨_, xs, q, _⟩ := S.ow i ds z
    rw [e, hp] at q; cases q
/-- the changing and the seen, told again -/
theorem Ds.eta {g : Gh} (S : Ds K g H σ) : Ds K { g with A := g.A, C := g.C } H σ := S
/-- p comes to the hidden -/
theorem Ds.hideNew {g : Gh} {p : Addr} {o : HO} (S : Ds K g H σ) (hp : H p = none) : Ds K { g with Z := fun a => g.Z a ∨ a = p } (upd H p o) σ := by
  have sm : Same H (upd H p o) := S.new hp
  have sn : Same (hide H (Hid g)) (hide (upd H p o) (Hid { g with Z := fun a => g.Z a ∨ a = p })) := hide_sub fun a x hn h => by
    have ne : a ≠ p := ne_of_none h hp
    refine ⟨fun z => ?_, sm a x h⟩
    rcases z with ((z | z) | z) | z
    · exact hn (.inl (.inl z))
    · exact ne z
    · exact hn (.inl (.inr z))
    · exact hn (.inr z)
  refine ⟨fun a x h0 hA => sm a x (S.base a x h0 hA), fun a hz => ?_, fun a ha z => S.al a ha (sm.free z), ⟨S.mem.nd, S.mem.len, fun i a mo h1 h2 => ?_⟩, S.oinj, fun i ds h => ?_, S.len, fun i d h => ?_, fun i ds h => ?_⟩
  · rcases hz with hz | hz
    · exact fun z => S.zl a hz (sm.free z)
    · rw [hz, upd_same]; exact fun z => by cases z
  · have q := S.mem.at_ i a mo h1 h2
    cases mo with
    | lst ds =>
      obtain ⟨xs, h3, h4⟩ := q
      exact ⟨xs, sm a _ h3, h4.mono (Pre.refl _) sn⟩
  · obtain ⟨q1, q2, q3⟩ := S.ofr i ds h
    obtain ⟨_, xs, q4, _⟩ := S.ow i ds h
    refine ⟨q1, fun z => ?_, q3⟩
    rcases z with z | z
    · exact q2 z
    · rw [z, hp] at q4; cases q4
  · obtain ⟨v, q1, q2⟩ := S.im i d h
    exact ⟨v, q1, q2.mono (Pre.refl _) sn⟩
  · obtain ⟨q1, xs, q2, q3⟩ := S.ow i ds h
    exact ⟨q1, xs, sm _ _ q2, q3.mono (Pre.refl _) sn⟩
/-- fewer hidden -/
theorem hid_less {g : Gh} {Z' : Addr → Prop} (h : ∀ a, g.Z a → Z' a) : Same (hide H (Hid { g with Z := Z' })) (hide H (Hid g)) := hide_sub fun a x hn e => ⟨fun z => hn (by
  rcases z with (z | z) | z
  · exact .inl (.inl (h a z))
  · exact .inl (.inr z)
  · exact .inr z), e⟩
theorem Ds.less {g : Gh} {Z' : Addr → Prop} (S : Ds K { g with Z := Z' } H σ) (h : ∀ a, g.Z a → Z' a) : Ds K g H σ := by
  have sn : Same (hide H (Hid { g with Z := Z' })) (hide H (Hid g)) := hid_less h
  refine ⟨S.base, fun a z => S.zl a (h a z), S.al, ⟨S.mem.nd, S.mem.len, fun i a mo h1 h2 => ?_⟩, S.oinj, fun i ds q => ?_, S.len, fun i d q => ?_, fun i ds q => ?_⟩
  · have q := S.mem.at_ i a mo h1 h2
    cases mo with
    | lst ds =>
      obtain ⟨xs, h3, h4⟩ := q
      exact ⟨xs, h3, h4.mono (Pre.refl _) sn⟩
  · obtain ⟨q1, q2, q3⟩ := S.ofr i ds q
    exact ⟨q1, fun z => q2 (h _ z), q3⟩
  · obtain ⟨v, q1, q2⟩ := S.im i d q
    exact ⟨v, q1, q2.mono (Pre.refl _) sn⟩
  · obtain ⟨q1, xs, q2, q3⟩ := S.ow i ds q
    exact ⟨q1, xs, q2, q3.mono (Pre.refl _) sn⟩
end

/-! ### functions of results -/
def eK (d : D) : EF := fun _ C => some (d, C)
def eVar (i : Nat) : EF := fun ρ C => match ρ[i]? with
  | some (.im d) => some (d, C)
  | _ => none
def lVar (i : Nat) : LF := fun ρ C => match ρ[i]? with
  | some (.ow ds) => some (ds, C)
  | some (.im (.lst ds)) => some (ds, C)
  | _ => none
def asL (f : EF) : LF := fun ρ C => match f ρ C with
  | some (.lst ds, C1) => some (ds, C1)
  | _ => none
def asD (f : LF) : EF := fun ρ C => match f ρ C with
  | some (ds, C1) => some (.lst ds, C1)
  | none => none
def e1 (k : D → Option D) (f : EF) : EF := fun ρ C => match f ρ C with
  | some (x, C1) => match k x with
    | some d => some (d, C1)
    | none => none
  | none => none
def e2 (k : D → D → Option D) (f h : EF) : EF := fun ρ C => match f ρ C with
  | some (x, C1) => match h ρ C1 with
    | some (y, C2) => match k x y with
      | some d => some (d, C2)
      | none => none
    | none => none
  | none => none
theorem e1_some {k : D → Option D} {f : EF} {ρ : Rho} {C C1 : Mem} {d : D} (h : e1 k f ρ C = some (d, C1)) : ∃ x, f ρ C = some (x, C1) ∧ k x = some d := by
  unfold e1 at h
  cases q : f ρ C with
  | none => rw [q] at h; cases h
  | some p =>
    obtain ⟨x, C2⟩ := p
    rw [q] at h
    dsimp only at h
    cases r : k x with
    | none => rw [r] at h; cases h
    | some e => rw [r] at h; cases h; exact ⟨x, rfl, r⟩
theorem e2_some {k : D → D → Option D} {f g : EF} {ρ : Rho} {C C2 : Mem} {d : D} (h : e2 k f g ρ C = some (d, C2)) : ∃ x y C1, f ρ C = some (x, C1) ∧ g ρ C1 = some (y, C2) ∧ k x y = some d := by
  unfold e2 at h
  cases q : f ρ C with
  | none => rw [q] at h; cases h
  | some p =>
    obtain ⟨x, C1⟩ := p
    rw [q] at h
    dsimp only at h
    cases r : g ρ C1 with
    | none => rw [r] at h; cases h
    | some p2 =>
      obtain ⟨y, C3⟩ := p2
      rw [r] at h
      dsimp only at h
      cases t : k x y with
      | none => rw [t] at h; cases h
      | some e => rw [t] at h; cases h; exact ⟨x, y, C1, rfl, r, t⟩

section
variable {X : Cx} {a b : Expr} {f h : EF} {pos : Pos}
/-- a constant reading -/
theorem v_tC {e : Expr} {v : V} {d : D} (he : PE X e (L2.tC v)) (hd : ∀ A H, Dn X.K A H v d) : PE X e (tV X.K (eK d)) := PE.cq he fun σ H Q ⟨g, d', C', S, hf, q⟩ => by
  cases hf
  exact q v H g.A (Grow.refl S.al) S (hd _ _)
theorem v_int {i j pos} : PE X (.Constant (.int i) j pos) (tV X.K (eK (.int i))) := v_tC pe_int fun _ _ => .int i
theorem v_bl {i j pos} : PE X (.Constant (.bool i) j pos) (tV X.K (eK (.bl i))) := v_tC pe_bl fun _ _ => .bl i
theorem v_non {j pos} : PE X (.Constant .none j pos) (tV X.K (eK .non)) := v_tC pe_non fun _ _ => .non
theorem v_str {i j pos} : PE X (.Constant (.str i) j pos) (tV X.K (eK (.str i))) := v_tC pe_str fun _ _ => .str i
theorem v_name {e : Expr} (i : Nat) (he : PE X e (tVar i)) : PE X e (tV X.K (eVar i)) := PE.cq he fun σ H Q ⟨g, d', C', S, hf, q⟩ => by
  unfold eVar at hf
  cases r : g.ρ[i]? with
  | none => rw [r] at hf; cases hf
  | some s =>
    rw [r] at hf
    cases s with
    | im d =>
      cases hf
      obtain ⟨v, h1, h2⟩ := S.im i _ r
      exact ⟨v, h1, q v H g.A (Grow.refl S.al) S h2⟩
    | no => cases hf
    | ow ds => cases hf
theorem l_name {e : Expr} (i : Nat) (he : PE X e (tVar i)) : PE X e (tL X.K (lVar i)) := PE.cq he fun σ H Q ⟨g, d', C', S, hf, q⟩ => by
  unfold lVar at hf
  cases r : g.ρ[i]? with
  | none => rw [r] at hf; cases hf
  | some s =>
    rw [r] at hf
    cases s with
    | no => cases hf
    | ow ds =>
      cases hf
      obtain ⟨h1, xs, h2, h3⟩ := S.ow i _ r
      refine ⟨_, h1, q (g.o i) xs H g.A (Grow.refl S.al) S (hide_some.mpr ⟨fun z => ?_, h2⟩) h3⟩
      obtain ⟨_, q2, q3⟩ := S.ofr i _ r
      rcases z with z | z
      · exact q2 z
      · exact q3 z
    | im d =>
      cases d with
      | lst ds =>
        cases hf
        obtain ⟨v, h1, h2⟩ := S.im i _ r
        cases h2 with
        | lst s t => exact ⟨_, h1, q _ _ H g.A (Grow.refl S.al) S (hid_weak _ _ s) t⟩
      | _ => cases hf
theorem v_l (he : PE X a (tV X.K f)) : PE X a (tL X.K (asL f)) := PE.cq he fun σ H Q ⟨g, d', C', S, hf, q⟩ => by
  unfold asL at hf
  cases r : f g.ρ g.C with
  | none => rw [r] at hf; cases hf
  | some p =>
    obtain ⟨d, C1⟩ := p
    rw [r] at hf
    cases d with
    | lst ds =>
      cases hf
      refine ⟨g, _, _, S, r, fun v H' A' gr S' dn => ?_⟩
      cases dn with
      | lst s t => exact q _ _ H' A' gr S' (hid_weak (g := { g with A := A', C := C' }) _ _ s) t
    | _ => cases hf
theorem l_w {f : LF} (he : PE X a (tL X.K f)) : PE X a (tW X.K (asD f)) := PE.cq he fun σ H Q ⟨g, d', C', S, hf, q⟩ => by
  unfold asD at hf
  cases r : f g.ρ g.C with
  | none => rw [r] at hf; cases hf
  | some p =>
    obtain ⟨ds, C1⟩ := p
    rw [r] at hf
    cases hf
    exact ⟨g, _, _, S, r, fun a xs H' A' gr S' s t => q _ H' A' gr S' (.lst s (t.mono (Pre.refl _) (hid_weak (g := { g with A := A', C := C' }))))⟩
theorem v_w (he : PE X a (tV X.K f)) : PE X a (tW X.K f) := PE.cq he fun σ H Q ⟨g, d', C', S, hf, q⟩ =>
  ⟨g, d', C', S, hf, fun v H' A' gr S' dn => q v H' A' gr S' (dn.mono (Pre.refl _) (hid_weak (g := { g with A := A', C := C' })))⟩
theorem f_v {f : LF} (he : PE X a (tF X.K f)) : PE X a (tV X.K (asD f)) := PE.cq he fun σ H Q ⟨g, d', C', S, hf, q⟩ => by
  unfold asD at hf
  cases r : f g.ρ g.C with
  | none => rw [r] at hf; cases hf
  | some p =>
    obtain ⟨ds, C1⟩ := p
    rw [r] at hf
    cases hf
    refine ⟨g, _, _, S, r, fun p xs H' A' hp hA gr S' e t => ?_⟩
    have S2 : Ds X.K { g with A := A', C := C' } H' σ := S'.less (g := { g with A := A', C := C' }) fun a z => .inl z
    refine q _ H' A' gr S2 (.lst (hide_some.mpr ⟨fun z => ?_, e⟩) (t.mono (Pre.refl _) (hid_less (g := { g with A := A', C := C' }) fun a z => .inl z)))
    rcases z with (z | z) | ⟨i, es, z, e2⟩
    · exact S.zl p z hp
    · exact hA z
    · obtain ⟨_, xs', q4, _⟩ := S.ow i es z
      have e2 : g.o i = p := e2
      rw [e2, hp] at q4
      cases q4
theorem f_l {f : LF} (he : PE X a (tF X.K f)) : PE X a (tL X.K f) := PE.cq (v_l (f_v he)) fun σ H Q ⟨g, d', C', S, hf, q⟩ =>
  ⟨g, d', C', S, by unfold asL asD; rw [hf], q⟩

/-! ### operators on scalars -/
def dInt : D → Option Int
  | .int i => some i
  | _ => none
/-- two ints under a condition -/
def kI (c : Int → Int → Bool) (g : Int → Int → D) (x y : D) : Option D := match x, y with
  | .int i, .int j => if c i j = true then some (g i j) else none
  | _, _ => none
theorem kI_some {c : Int → Int → Bool} {g : Int → Int → D} {x y d : D} (h : kI c g x y = some d) : ∃ i j, x = .int i ∧ y = .int j ∧ c i j = true ∧ d = g i j := by
  cases x with
  | int i =>
    cases y with
    | int j =>
      unfold kI at h; dsimp only at h
      by_cases hc : c i j = true
      · rw [if_pos hc] at h; cases h; exact ⟨i, j, rfl, rfl, hc, rfl⟩
      · rw [if_neg hc] at h; cases h
    | _ => cases h
  | _ => cases h
/-- a two-place operation told by values alone -/
def Op2 (X : Cx) (op : Value → Value → Sem Value) (k : D → D → Option D) : Prop :=
  ∃ r : R2, OpR X op r ∧ ∀ x y d, k x y = some d → ∀ A H0 H v w Q, Same H0 H → Dn X.K A H0 v x → Dn X.K A H0 w y → (∀ u, Dn X.K A H0 u d → Q u H) → r v w H Q
theorem op2_int {op : Value → Value → Sem Value} {Cc : Int → Int → Prop} {g : Int → Int → V} {c : Int → Int → Bool} {gd : Int → Int → D} (ho : OpR X op (rI Cc g)) (hc : ∀ i j, c i j = true → Cc i j) (hd : ∀ A H i j, c i j = true → Dn X.K A H (g i j) (gd i j)) : Op2 X op (kI c gd) :=
  ⟨_, ho, fun x y d hk A H0 H v w Q sm dv dw q => by
    obtain ⟨i, j, rfl, rfl, hcc, rfl⟩ := kI_some hk
    cases dv
    cases dw
    exact ⟨i, j, rfl, rfl, hc i j hcc, q _ (hd _ _ _ _ hcc)⟩⟩
theorem op2_int0 {op : Value → Value → Sem Value} {g : Int → Int → V} {gd : Int → Int → D} (ho : OpR X op (rI0 g)) (hd : ∀ A H i j, Dn X.K A H (g i j) (gd i j)) : Op2 X op (kI (fun _ _ => true) gd) :=
  ⟨_, ho, fun x y d hk A H0 H v w Q sm dv dw q => by
    obtain ⟨i, j, rfl, rfl, hcc, rfl⟩ := kI_some hk
    cases dv
    cases dw
    exact ⟨i, j, rfl, rfl, q _ (hd _ _ _ _)⟩⟩
theorem Op2.tv {op : Value → Value → Sem Value} {k : D → D → Option D} (ho : Op2 X op k) : ∃ r, OpR X op r ∧ ∀ (f h : EF) σ H Q, tV X.K (e2 k f h) σ H Q → tOp r (tV X.K f) (tV X.K h) σ H Q := by
  obtain ⟨r, h1, h2⟩ := ho
  refine ⟨r, h1, fun f h σ H Q ⟨g, d, C', S, hf, q⟩ => ?_⟩
  obtain ⟨x, y, C1, q1, q2, q3⟩ := e2_some hf
  exact row2 S q1 q2 fun v w H' A' gr S' dv dw => h2 x y d q3 _ _ H' v w Q hide_same dv dw fun u du => q u H' A' gr S' du
theorem v_op {op : Operator} {k : D → D → Option D} (ho : Op2 X (binaryOp op) k) (ha : PE X a (tV X.K f)) (hb : PE X b (tV X.K h)) : PE X (.BinOp a op b pos) (tV X.K (e2 k f h)) := by
  obtain ⟨r, h1, h2⟩ := ho.tv
  exact PE.cq (pe_op h1 ha hb) (h2 f h)
theorem v_cmp {op : CmpOp} {k : D → D → Option D} (ho : Op2 X (compareOp op) k) (ha : PE X a (tV X.K f)) (hb : PE X b (tV X.K h)) (hm : behindInMarks op b = false) : PE X (.Compare a [op] [b] pos) (tV X.K (e2 k f h)) := by
  obtain ⟨r, h1, h2⟩ := ho.tv
  exact PE.cq (pe_cmpR h1 ha hb hm) (h2 f h)
/-- a test of a value that is a truth -/
def bOf (f : EF) : BF := fun ρ C => match f ρ C with
  | some (.bl b, C1) => some (b, C1)
  | _ => none
theorem bOf_some {f : EF} {ρ : Rho} {C C1 : Mem} {b : Bool} (h : bOf f ρ C = some (b, C1)) : f ρ C = some (.bl b, C1) := by
  unfold bOf at h
  cases q : f ρ C with
  | none => rw [q] at h; cases h
  | some p =>
    obtain ⟨d, C2⟩ := p
    rw [q] at h
    cases d with
    | bl b' => cases h; rfl
    | _ => cases h
theorem tC_of {t : TE} {σ : L2.St} {H : Hp} {Q : Bool → Hp → Prop} (hc : tC X.K (bOf f) σ H Q) (ht : ∀ Q', tV X.K f σ H Q' → t σ H Q') : t σ H fun x H' => ∃ k, x = .bl k ∧ Q k H' := by
  obtain ⟨g, b, C', S, hf, q⟩ := hc
  exact ht _ ⟨g, _, C', S, bOf_some hf, fun v H' A' gr S' dn => by cases dn; exact ⟨b, rfl, q H' A' gr S'⟩⟩
theorem c_cmp {op : CmpOp} {k : D → D → Option D} (ho : Op2 X (compareOp op) k) (ha : PE X a (tV X.K f)) (hb : PE X b (tV X.K h)) (hm : behindInMarks op b = false) : PT X (.Compare a [op] [b] pos) (tC X.K (bOf (e2 k f h))) := by
  obtain ⟨r, h1, h2⟩ := ho.tv
  exact PT.cq (pt_cmpR h1 ha hb hm) fun σ H Q hq => tC_of (t := tOp r (tV X.K f) (tV X.K h)) hq fun Q' => h2 f h σ H Q'
/-- any expression that is a truth -/
theorem c_val (ha : PE X a (tV X.K f)) (he : ∀ whole, isTrue a X.env whole = (do let v ← whole; standAt a.pos; holding [v] (truthy v)) := by intro _; rfl) : PT X a (tC X.K (bOf f)) :=
  PT.cq (pt_val ha he) fun σ H Q hq => tC_of (t := tV X.K f) hq fun Q' z => z
/-- truth of ints, lists -/
def truD : D → Option Bool
  | .non => some false
  | .bl b => some b
  | .int i => some (i != 0)
  | .lst ds => some (!ds.isEmpty)
  | .tup ds => some (!ds.isEmpty)
  | _ => none
def b1 (k : D → Option Bool) (f : EF) : BF := fun ρ C => match f ρ C with
  | some (x, C1) => match k x with
    | some b => some (b, C1)
    | none => none
  | none => none
theorem b1_some {k : D → Option Bool} {f : EF} {ρ : Rho} {C C1 : Mem} {b : Bool} (h : b1 k f ρ C = some (b, C1)) : ∃ x, f ρ C = some (x, C1) ∧ k x = some b := by
  unfold b1 at h
  cases q : f ρ C with
  | none => rw [q] at h; cases h
  | some p =>
    obtain ⟨x, C2⟩ := p
    rw [q] at h
    dsimp only at h
    cases r : k x with
    | none => rw [r] at h; cases h
    | some e => rw [r] at h; cases h; exact ⟨x, rfl, r⟩
theorem isEmpty_len {α β : Type} {xs : List α} {ys : List β} (h : xs.length = ys.length) : xs.isEmpty = ys.isEmpty := by
  cases xs <;> cases ys <;> simp_all
theorem c_tru (ha : PE X a (tW X.K f)) (he : ∀ whole, isTrue a X.env whole = (do let v ← whole; standAt a.pos; holding [v] (truthy v)) := by intro _; rfl) : PT X a (tC X.K (b1 truD f)) :=
  PT.cq (pt_truth ha he) fun σ H Q ⟨g, b, C', S, hf, q⟩ => by
    obtain ⟨x, h1, h2⟩ := b1_some hf
    refine ⟨g, x, C', S, h1, fun v H' A' gr S' dn => ⟨b, ?_, q H' A' gr S'⟩⟩
    cases dn with
    | non => exact (Option.some.inj h2).symm
    | bl => exact (Option.some.inj h2).symm
    | int => exact (Option.some.inj h2).symm
    | lst s t => exact .inl ⟨_, .inl (.inl (hide_same _ _ s)), by rw [isEmpty_len t.length]; exact (Option.some.inj h2).symm⟩
    | tup s t => exact .inr (.inl ⟨_, sqT_mono hide_same s, by rw [isEmpty_len t.length]; exact (Option.some.inj h2).symm⟩)
    | str => cases h2
    | mu => cases h2
end
end Ht


set_option maxRecDepth 100000
set_option maxHeartbeats 1000000 -- ht
/-! The value layer: expressions that read and make lists, calls. -/
namespace Ht
open PySem PySem.Spec PyProof.Rows L2 -- ht

/-! ### truth -/
def bAnd (f h : BF) : BF := fun ρ C => match f ρ C with
  | some (true, C1) => h ρ C1
  | r => r
def bOr (f h : BF) : BF := fun ρ C => match f ρ C with
  | some (false, C1) => h ρ C1
  | r => r
def bNot (f : BF) : BF := fun ρ C => match f ρ C with
  | some (b, C1) => some (!b, C1)
  | none => none
def eIf (c : BF) (f h : EF) : EF := fun ρ C => match c ρ C with
  | some (true, C1) => f ρ C1
  | some (false, C1) => h ρ C1
  | none => none
def eOfB (f : BF) : EF := fun ρ C => match f ρ C with
  | some (b, C1) => some (.bl b, C1)
  | none => none
theorem PW.cq {X : Cx} {e : Expr} {t t' : TT} (h : PW X e t) (c : ∀ σ H Q, t' σ H Q → t σ H Q) : PW X e t' := ⟨fun w pins s σ H Q I q => h.run w pins s σ H Q I (c σ H Q q)⟩
section
variable {X : Cx} {a b : Expr} {rest : List Expr} {f h : BF} {pos : Pos}
theorem c_w1 {op} (ha : PT X a (tC X.K f)) (ho : op = .And ∨ op = .Or) : PW X (.BoolOp op [a] pos) (tC X.K f) := by
  rcases ho with rfl | rfl
  · exact pw_and1 ha
  · exact pw_or1 ha
theorem c_and1 (ha : PT X a (tC X.K f)) : PW X (.BoolOp .And [a] pos) (tC X.K f) := pw_and1 ha
theorem c_or1 (ha : PT X a (tC X.K f)) : PW X (.BoolOp .Or [a] pos) (tC X.K f) := pw_or1 ha
theorem c_and (ha : PT X a (tC X.K f)) (hb : PW X (.BoolOp .And (b :: rest) pos) (tC X.K h)) : PW X (.BoolOp .And (a :: b :: rest) pos) (tC X.K (bAnd f h)) :=
  PW.cq (pw_and ha hb) fun σ H Q ⟨g, r, C', S, hf, q⟩ => by
    unfold bAnd at hf
    cases q1 : f g.ρ g.C with
    | none => rw [q1] at hf; cases hf
    | some p =>
      obtain ⟨c, C1⟩ := p
      rw [q1] at hf
      refine ⟨g, c, C1, S, q1, fun H' A' gr S' => ?_⟩
      cases c with
      | true => exact ⟨_, r, C', S', hf, fun H2 A2 gr2 S2 => q H2 A2 (gr.trans gr2) S2⟩
      | false => cases hf; exact q H' A' gr S'
theorem c_or (ha : PT X a (tC X.K f)) (hb : PW X (.BoolOp .Or (b :: rest) pos) (tC X.K h)) : PW X (.BoolOp .Or (a :: b :: rest) pos) (tC X.K (bOr f h)) :=
  PW.cq (pw_or ha hb) fun σ H Q ⟨g, r, C', S, hf, q⟩ => by
    unfold bOr at hf
    cases q1 : f g.ρ g.C with
    | none => rw [q1] at hf; cases hf
    | some p =>
      obtain ⟨c, C1⟩ := p
      rw [q1] at hf
      refine ⟨g, c, C1, S, q1, fun H' A' gr S' => ?_⟩
      cases c with
      | false => exact ⟨_, r, C', S', hf, fun H2 A2 gr2 S2 => q H2 A2 (gr.trans gr2) S2⟩
      | true => cases hf; exact q H' A' gr S'
theorem c_w (hw : PW X a (tC X.K f)) : PT X a (tC X.K f) := hw.pt
theorem c_not (ha : PT X a (tC X.K f)) : PT X (.UnaryOp .Not a pos) (tC X.K (bNot f)) := PT.cq (pt_not ha) fun σ H Q ⟨g, r, C', S, hf, q⟩ => by
  unfold bNot at hf
  cases q1 : f g.ρ g.C with
  | none => rw [q1] at hf; cases hf
  | some p =>
    obtain ⟨c, C1⟩ := p
    rw [q1] at hf
    cases hf
    exact ⟨g, c, _, S, q1, fun H' A' gr S' => q H' A' gr S'⟩
/-- a if c else b -/
theorem v_if {c : Expr} {fc : BF} {f h : EF} (hc : PT X c (tC X.K fc)) (ha : PE X a (tV X.K f)) (hb : PE X b (tV X.K h)) : PE X (.IfExp c a b pos) (tV X.K (eIf fc f h)) :=
  PE.cq (pe_ifExp hc ha hb) fun σ H Q ⟨g, r, C', S, hf, q⟩ => by
    unfold eIf at hf
    cases q1 : fc g.ρ g.C with
    | none => rw [q1] at hf; cases hf
    | some p =>
      obtain ⟨c, C1⟩ := p
      rw [q1] at hf
      refine ⟨g, c, C1, S, q1, fun H' A' gr S' => ?_⟩
      cases c with
      | true => exact ⟨_, r, C', S', hf, fun v H2 A2 gr2 S2 dn => q v H2 A2 (gr.trans gr2) S2 dn⟩
      | false => exact ⟨_, r, C', S', hf, fun v H2 A2 gr2 S2 dn => q v H2 A2 (gr.trans gr2) S2 dn⟩
/-- and, or of truths, as values -/
def eAnd (f h : EF) : EF := fun ρ C => match f ρ C with
  | some (.bl true, C1) => match h ρ C1 with
    | some (.bl b, C2) => some (.bl b, C2)
    | _ => none
  | some (.bl false, C1) => some (.bl false, C1)
  | _ => none
def eOr (f h : EF) : EF := fun ρ C => match f ρ C with
  | some (.bl false, C1) => match h ρ C1 with
    | some (.bl b, C2) => some (.bl b, C2)
    | _ => none
  | some (.bl true, C1) => some (.bl true, C1)
  | _ => none
theorem v_and1 {op} {f : EF} (ha : PE X a (tV X.K f)) : PE X (.BoolOp op [a] pos) (tV X.K f) := pe_one ha
theorem v_and {f h : EF} (ha : PE X a (tV X.K f)) (hb : PE X (.BoolOp .And (b :: rest) pos) (tV X.K h)) : PE X (.BoolOp .And (a :: b :: rest) pos) (tV X.K (eAnd f h)) :=
  PE.cq (pe_and ha hb) fun σ H Q ⟨g, r, C', S, hf, q⟩ => by
    unfold eAnd at hf
    cases q1 : f g.ρ g.C with
    | none => rw [q1] at hf; cases hf
    | some p =>
      obtain ⟨c, C1⟩ := p
      rw [q1] at hf
      refine ⟨g, c, C1, S, q1, fun v H' A' gr S' dn => ?_⟩
      cases c with
      | bl k =>
        cases dn
        refine ⟨k, rfl, ?_⟩
        cases k with
        | false => cases hf; exact q _ H' A' gr S' (.bl false)
        | true =>
          dsimp only at hf
          cases q2 : h g.ρ C1 with
          | none => rw [q2] at hf; cases hf
          | some p2 =>
            obtain ⟨d2, C2⟩ := p2
            rw [q2] at hf
            cases d2 with
            | bl k2 => cases hf; exact ⟨_, _, _, S', q2, fun v H2 A2 gr2 S2 dn => q v H2 A2 (gr.trans gr2) S2 dn⟩
            | _ => cases hf
      | _ => cases hf
theorem v_or {f h : EF} (ha : PE X a (tV X.K f)) (hb : PE X (.BoolOp .Or (b :: rest) pos) (tV X.K h)) : PE X (.BoolOp .Or (a :: b :: rest) pos) (tV X.K (eOr f h)) :=
  PE.cq (pe_or ha hb) fun σ H Q ⟨g, r, C', S, hf, q⟩ => by
    unfold eOr at hf
    cases q1 : f g.ρ g.C with
    | none => rw [q1] at hf; cases hf
    | some p =>
      obtain ⟨c, C1⟩ := p
      rw [q1] at hf
      refine ⟨g, c, C1, S, q1, fun v H' A' gr S' dn => ?_⟩
      cases c with
      | bl k =>
        cases dn
        refine ⟨k, rfl, ?_⟩
        cases k with
        | true => cases hf; exact q _ H' A' gr S' (.bl true)
        | false =>
          dsimp only at hf
          cases q2 : h g.ρ C1 with
          | none => rw [q2] at hf; cases hf
          | some p2 =>
            obtain ⟨d2, C2⟩ := p2
            rw [q2] at hf
            cases d2 with
            | bl k2 => cases hf; exact ⟨_, _, _, S', q2, fun v H2 A2 gr2 S2 dn => q v H2 A2 (gr.trans gr2) S2 dn⟩
            | _ => cases hf
      | _ => cases hf
theorem v_not {f : EF} (ha : PE X a (tV X.K f)) : PE X (.UnaryOp .Not a pos) (tV X.K (e1 (fun d => match d with | .bl b => some (.bl (!b)) | _ => none) f)) := PE.cq (pe_not ha) fun σ H Q ⟨g, r, C', S, hf, q⟩ => by
  obtain ⟨x, h1, h2⟩ := e1_some hf
  cases x with
  | bl b => cases h2; exact ⟨g, _, _, S, h1, fun v H' A' gr S' dn => by cases dn; exact ⟨b, rfl, q _ H' A' gr S' (.bl _)⟩⟩
  | _ => cases h2
/-- one-place operators on ints -/
theorem v_neg {f : EF} (ha : PE X a (tV X.K f)) : PE X (.UnaryOp .USub a pos) (tV X.K (e1 (fun d => match d with | .int b => some (.int (-b)) | _ => none) f)) := PE.cq (pe_un un_neg ha) fun σ H Q ⟨g, r, C', S, hf, q⟩ => by
  obtain ⟨x, h1, h2⟩ := e1_some hf
  cases x with
  | int b => cases h2; exact ⟨g, _, _, S, h1, fun v H' A' gr S' dn => by cases dn; exact ⟨b, rfl, q _ H' A' gr S' (.int _)⟩⟩
  | _ => cases h2
end

/-! ### arguments, displays -/
def aNil : LF := fun _ C => some ([], C)
def aCons (f : EF) (r : LF) : LF := fun ρ C => match f ρ C with
  | some (d, C1) => match r ρ C1 with
    | some (ds, C2) => some (d :: ds, C2)
    | none => none
  | none => none
theorem aCons_some {f : EF} {r : LF} {ρ : Rho} {C C2 : Mem} {es : List D} (h : aCons f r ρ C = some (es, C2)) : ∃ d ds C1, f ρ C = some (d, C1) ∧ r ρ C1 = some (ds, C2) ∧ es = d :: ds := by
  unfold aCons at h
  cases q : f ρ C with
  | none => rw [q] at h; cases h
  | some p =>
    obtain ⟨d, C1⟩ := p
    rw [q] at h
    dsimp only at h
    cases q2 : r ρ C1 with
    | none => rw [q2] at h; cases h
    | some p2 =>
      obtain ⟨ds, C3⟩ := p2
      rw [q2] at h
      cases h
      exact ⟨d, ds, C1, rfl, q2, rfl⟩
section
variable {X : Cx} {e : Expr} {es : List Expr} {f : EF} {r : LF} {pos : Pos}
theorem a_nil : PA X [] (tA X.K aNil) := PA.cq pa_nil fun σ H Q ⟨g, ds, C', S, hf, q⟩ => by
  cases hf
  exact q [] H g.A (Grow.refl S.al) S .nil
theorem a_cons (ha : PE X e (tV X.K f)) (hr : PA X es (tA X.K r)) (hs : starEach (e :: es) X.env = (false, eval e X.env) :: starEach es X.env := by rfl) : PA X (e :: es) (tA X.K (aCons f r)) := PA.cq (pa_cons ha hr hs) fun σ H Q ⟨g, ds, C', S, hf, q⟩ => by
  obtain ⟨d, ds', C1, h1, h2, rfl⟩ := aCons_some hf
  exact ⟨g, d, C1, S, h1, fun v H1 A1 g1 S1 d1 => ⟨_, ds', C', S1, h2, fun vs H2 A2 g2 S2 d2 =>
    q (v :: vs) H2 A2 (g1.trans g2) S2 (.cons (d1.mono g2.pre (g2.seenG (g := { g with A := A1, C := C1 }) (C' := C'))) d2)⟩⟩
/-- a new list is laid -/
theorem fin_new {K : PySem.W.Frag} {g : Gh} {H : Hp} {σ : L2.St} {p : Addr} {xs : List V} {ds : List D} (S : Ds K g H σ) (hp : H p = none) (d : DnAll K g.A (hide H (Hid g)) xs ds) :
    Ds K { g with Z := fun a => g.Z a ∨ a = p } (upd H p (.lst xs)) σ ∧ DnAll K g.A (hide (upd H p (.lst xs)) (Hid { g with Z := fun a => g.Z a ∨ a = p })) xs ds ∧ Grow g.A g.A H (upd H p (.lst xs)) ∧ p ∉ g.A := by
  have sm : Same H (upd H p (.lst xs)) := S.new hp
  refine ⟨S.hideNew hp, d.mono (Pre.refl _) (hide_sub fun a x hn h => ?_), Grow.of S.al sm, fun z => S.al p z hp⟩
  have ne : a ≠ p := ne_of_none h hp
  refine ⟨fun z => ?_, sm a x h⟩
  rcases z with ((z | z) | z) | z
  · exact hn (.inl (.inl z))
  · exact ne z
  · exact hn (.inl (.inr z))
  · exact hn (.inr z)
/-- .. as what a fresh list asks -/
theorem fresh_of {K : PySem.W.Frag} {g : Gh} {H H1 : Hp} {σ : L2.St} {xs : List V} {ds : List D} {A1 : List Addr} {C1 : Mem} {Q : VK}
    (gr : Grow g.A A1 H H1) (S : Ds K { g with A := A1, C := C1 } H1 σ) (d : DnAll K A1 (hide H1 (Hid { g with A := A1, C := C1 })) xs ds)
    (q : ∀ p xs H' A', H p = none → p ∉ A' → Grow g.A A' H H' → Ds K { g with A := A', C := C1, Z := fun a => g.Z a ∨ a = p } H' σ → H' p = some (.lst xs) →
      DnAll K A' (hide H' (Hid { g with A := A', C := C1, Z := fun a => g.Z a ∨ a = p })) xs ds → Q (.ref p) H') : ∀ p, H1 p = none → Q (.ref p) (upd H1 p (.lst xs)) := fun p hp => by
  obtain ⟨n1, n2, n3, n4⟩ := fin_new S hp d
  have hp0 : H p = none := by
    cases e : H p with
    | none => rfl
    | some x => exact absurd hp (gr.step.live p (by rw [e]; exact fun z => by cases z))
  exact q p xs _ A1 hp0 n4 (gr.trans n3) n1 upd_same n2
/-- a new tuple -/
theorem new_tup {K : PySem.W.Frag} {g : Gh} {H : Hp} {σ : L2.St} {p : Addr} {xs : List V} {ds : List D} (S : Ds K g H σ) (hp : H p = none) (d : DnAll K g.A (hide H (Hid g)) xs ds) :
    Ds K g (upd H p (.tup xs)) σ ∧ Dn K g.A (hide (upd H p (.tup xs)) (Hid g)) (.ref p) (.tup ds) ∧ Grow g.A g.A H (upd H p (.tup xs)) := by
  have sm : Same H (upd H p (.tup xs)) := S.new hp
  refine ⟨S.keep sm, .tup (.inl (.inl (hide_some.mpr ⟨S.nohid hp, upd_same⟩))) (d.mono (Pre.refl _) (hide_sub fun a x hn h => ⟨hn, sm a x h⟩)), Grow.of S.al sm⟩
def eTup (r : LF) : EF := fun ρ C => match r ρ C with
  | some (ds, C1) => if ds.length ≤ 1000 then some (.tup ds, C1) else none
  | none => none
def lLst (r : LF) : LF := fun ρ C => match r ρ C with
  | some (ds, C1) => if ds.length ≤ 1000 then some (ds, C1) else none
  | none => none
theorem lLst_some {r : LF} {ρ : Rho} {C C1 : Mem} {ds : List D} (h : lLst r ρ C = some (ds, C1)) : r ρ C = some (ds, C1) ∧ ds.length ≤ 1000 := by
  unfold lLst at h
  cases q : r ρ C with
  | none => rw [q] at h; cases h
  | some p =>
    obtain ⟨d, C2⟩ := p
    rw [q] at h
    dsimp only at h
    by_cases hl : d.length ≤ 1000
    · rw [if_pos hl] at h; cases h; exact ⟨rfl, hl⟩
    · rw [if_neg hl] at h; cases h
theorem v_tup {k} (h : PA X es (tA X.K r)) : PE X (.Tuple es k pos) (tV X.K (eTup r)) := PE.cq (pe_tup h) fun σ H Q ⟨g, d, C', S, hf, q⟩ => by
  unfold eTup at hf
  cases q1 : r g.ρ g.C with
  | none => rw [q1] at hf; cases hf
  | some p =>
    obtain ⟨ds, C1⟩ := p
    rw [q1] at hf
    dsimp only at hf
    by_cases hl : ds.length ≤ 1000
    · rw [if_pos hl] at hf
      cases hf
      refine ⟨g, ds, C', S, q1, fun vs H' A' gr S' dn => ⟨Nat.le_of_lt (small1000 (by rw [dn.length]; exact hl)), fun p hp => ?_⟩⟩
      obtain ⟨n1, n2, n3⟩ := new_tup S' hp dn
      exact q _ _ A' (gr.trans n3) n1 n2
    · rw [if_neg hl] at hf; cases hf
theorem f_lst (h : PA X es (tA X.K r)) : PE X (.List es pos) (tF X.K (lLst r)) := PE.cq (pe_lst h) fun σ H Q ⟨g, d, C', S, hf, q⟩ => by
  obtain ⟨h1, h2⟩ := lLst_some hf
  exact ⟨g, d, C', S, h1, fun vs H' A' gr S' dn => ⟨Nat.le_of_lt (small1000 (by rw [dn.length]; exact h2)), fresh_of gr S' dn q⟩⟩
end

/-! ### subscripts, slices -/
def ixD (x y : D) : Option D := match x, y with
  | .lst ds, .int i => atI ds i
  | .tup ds, .int i => atI ds i
  | _, _ => none
theorem atI_dn {K : PySem.W.Frag} {A : List Addr} {H : Hp} {xs : List V} {ds : List D} {i : Int} {d : D} (h : DnAll K A H xs ds) (e : atI ds i = some d) : ∃ v, atI xs i = some v ∧ Dn K A H v d := by
  unfold atI at e ⊢
  rw [h.length]
  cases q : ixN ds.length i with
  | none => rw [q] at e; cases e -- ht
  | some j =>
    rw [q] at e
    exact h.get e
section
variable {X : Cx} {a b : Expr} {f h : EF} {pos : Pos}
theorem v_ix (ha : PE X a (tV X.K f)) (hb : PE X b (tV X.K h)) (hs : PlainIx b := by exact fun _ _ => rfl) : PE X (.Subscript a b pos) (tV X.K (e2 ixD f h)) := PE.cq (pe_ix ix_seq ha hb hs) fun σ H Q ⟨g, d, C', S, hf, q⟩ => by
  obtain ⟨x, y, C1, q1, q2, q3⟩ := e2_some hf
  refine row2 S q1 q2 fun v w H' A' gr S' dv dw => ?_
  cases x with
  | lst ds =>
    cases y with
    | int i =>
      cases dw
      cases dv with
      | lst s t =>
        obtain ⟨u, e1, e2⟩ := atI_dn t q3
        exact .inl ⟨_, _, i, u, rfl, rfl, .inl (.inl (hide_same _ _ s)), e1, q u H' A' gr S' e2⟩
    | _ => cases q3
  | tup ds =>
    cases y with
    | int i =>
      cases dw
      cases dv with
      | tup s t =>
        obtain ⟨u, e1, e2⟩ := atI_dn t q3
        exact .inr (.inl ⟨_, _, i, u, rfl, rfl, sqT_mono hide_same s, e1, q u H' A' gr S' e2⟩)
    | _ => cases q3
  | _ => cases q3
def lix (f : LF) (h : EF) : EF := fun ρ C => match f ρ C with
  | some (ds, C1) => match h ρ C1 with
    | some (.int i, C2) => match atI ds i with
      | some d => some (d, C2)
      | none => none
    | _ => none
  | none => none
theorem lix_some {f : LF} {h : EF} {ρ : Rho} {C C2 : Mem} {d : D} (e : lix f h ρ C = some (d, C2)) : ∃ ds i C1, f ρ C = some (ds, C1) ∧ h ρ C1 = some (.int i, C2) ∧ atI ds i = some d := by
  unfold lix at e
  cases q : f ρ C with
  | none => rw [q] at e; cases e -- ht
  | some p =>
    obtain ⟨ds, C1⟩ := p
    rw [q] at e
    dsimp only at e
    cases q2 : h ρ C1 with
    | none => rw [q2] at e; cases e
    | some p2 =>
      obtain ⟨y, C3⟩ := p2
      rw [q2] at e
      cases y with
      | int i =>
        dsimp only at e
        cases q3 : atI ds i with
        | none => rw [q3] at e; cases e
        | some u => rw [q3] at e; cases e; exact ⟨ds, i, C1, rfl, q2, q3⟩
      | _ => cases e
theorem l_ix {f : LF} (ha : PE X a (tL X.K f)) (hb : PE X b (tV X.K h)) (hs : PlainIx b := by exact fun _ _ => rfl) : PE X (.Subscript a b pos) (tV X.K (lix f h)) := PE.cq (pe_ix ix_list ha hb hs) fun σ H Q ⟨g, d, C', S, hf, q⟩ => by
  obtain ⟨ds, i, C1, q1, q2, q3⟩ := lix_some hf
  refine row2LV S q1 q2 fun l xs w H' A' gr S' s t dw => ?_
  cases dw
  obtain ⟨u, e1, e2⟩ := atI_dn t q3
  exact ⟨l, xs, i, u, rfl, rfl, .inl (.inl (hide_same _ _ s)), e1, q u H' A' gr S' e2⟩
/-- the parts of a slice -/
abbrev OF := Rho → Mem → Option (Option Int × Mem)
def tO (K : PySem.W.Frag) (f : OF) : TO := fun σ H Q => ∃ (g : Gh) (o : Option Int) (C' : Mem), Ds K g H σ ∧ f g.ρ g.C = some (o, C') ∧ ∀ H' A', Grow g.A A' H H' → Ds K { g with A := A', C := C' } H' σ → Q o H'
theorem PO.cq {e : Option Expr} {t t' : TO} (h : PO X e t) (c : ∀ σ H Q, t' σ H Q → t σ H Q) : PO X e t' := ⟨fun pins s σ H Q I q => h.run pins s σ H Q I (c σ H Q q)⟩
def oNone : OF := fun _ C => some (none, C)
def oSome (f : EF) : OF := fun ρ C => match f ρ C with
  | some (.int i, C1) => some (some i, C1)
  | _ => none
theorem o_none : PO X none (tO X.K oNone) := PO.cq po_none fun σ H Q ⟨g, o, C', S, hf, q⟩ => by
  cases hf
  exact q H g.A (Grow.refl S.al) S
theorem o_some {e : Expr} (h : PE X e (tV X.K f)) : PO X (some e) (tO X.K (oSome f)) := PO.cq (po_some h) fun σ H Q ⟨g, o, C', S, hf, q⟩ => by
  unfold oSome at hf
  cases q1 : f g.ρ g.C with
  | none => rw [q1] at hf; cases hf
  | some p =>
    obtain ⟨d, C1⟩ := p
    rw [q1] at hf
    cases d with
    | int i => cases hf; exact ⟨g, _, _, S, q1, fun v H' A' gr S' dn => by cases dn; exact ⟨i, rfl, q H' A' gr S'⟩⟩
    | _ => cases hf
def cutD (xs : List D) (lo hi : Option Int) : List D := (xs.drop (HT.sIx xs.length 0 lo)).take (HT.sIx xs.length xs.length hi - HT.sIx xs.length 0 lo)
theorem cut_dn {K : PySem.W.Frag} {A : List Addr} {H : Hp} {xs : List V} {ds : List D} (h : DnAll K A H xs ds) (lo hi : Option Int) : DnAll K A H (cutV xs lo hi) (cutD ds lo hi) := by
  unfold cutV cutD
  rw [h.length]
  exact (h.drop _).take _
def lCut (f : LF) (lo hi : OF) : LF := fun ρ C => match f ρ C with
  | some (ds, C1) => match lo ρ C1 with
    | some (l, C2) => match hi ρ C2 with
      | some (u, C3) => some (cutD ds l u, C3)
      | none => none
    | none => none
  | none => none
theorem lCut_some {f : LF} {lo hi : OF} {ρ : Rho} {C C3 : Mem} {r : List D} (e : lCut f lo hi ρ C = some (r, C3)) : ∃ ds l u C1 C2, f ρ C = some (ds, C1) ∧ lo ρ C1 = some (l, C2) ∧ hi ρ C2 = some (u, C3) ∧ r = cutD ds l u := by
  unfold lCut at e
  cases q : f ρ C with
  | none => rw [q] at e; cases e -- ht
  | some p =>
    obtain ⟨ds, C1⟩ := p
    rw [q] at e
    dsimp only at e
    cases q2 : lo ρ C1 with
    | none => rw [q2] at e; cases e
    | some p2 =>
      obtain ⟨l, C2⟩ := p2
      rw [q2] at e
      dsimp only at e
      cases q3 : hi ρ C2 with
      | none => rw [q3] at e; cases e
      | some p3 =>
        obtain ⟨u, C4⟩ := p3
        rw [q3] at e
        cases e
        exact ⟨ds, l, u, C1, C2, rfl, q2, q3, rfl⟩
theorem f_slice {f : LF} {lo hi : Option Expr} {fl fh : OF} {p2 : Pos} (ha : PE X a (tL X.K f)) (hl : PO X lo (tO X.K fl)) (hh : PO X hi (tO X.K fh)) : PE X (.Subscript a (.Slice lo hi none p2) pos) (tF X.K (lCut f fl fh)) :=
  PE.cq (pe_slice sl_list ha hl hh) fun σ H Q ⟨g, d, C', S, hf, q⟩ => by
    obtain ⟨ds, l, u, C1, C2, q1, q2, q3, rfl⟩ := lCut_some hf
    refine ⟨g, ds, C1, S, q1, fun p xs H1 A1 g1 S1 s1 t1 => ⟨_, l, C2, S1, q2, fun H2 A2 g2 S2 => ⟨_, u, C', S2, q3, fun H3 A3 g3 S3 => ?_⟩⟩⟩
    have g13 := g2.trans g3
    have s3 := g13.seen p _ s1
    have t3 := t1.mono g13.pre (g13.seenG (g := { g with A := A1, C := C1 }) (C' := C'))
    exact ⟨p, xs, rfl, .inl (.inl (hide_same _ _ s3)), fresh_of (g1.trans g13) S3 (cut_dn t3 l u) q⟩
/-- xs + ys -/
def lCat (f h : LF) : LF := fun ρ C => match f ρ C with
  | some (x, C1) => match h ρ C1 with
    | some (y, C2) => if x.length + y.length ≤ 100000 then some (x ++ y, C2) else none
    | none => none
  | none => none
theorem lCat_some {f h : LF} {ρ : Rho} {C C2 : Mem} {r : List D} (e : lCat f h ρ C = some (r, C2)) : ∃ x y C1, f ρ C = some (x, C1) ∧ h ρ C1 = some (y, C2) ∧ x.length + y.length ≤ 100000 ∧ r = x ++ y := by
  unfold lCat at e
  cases q : f ρ C with
  | none => rw [q] at e; cases e -- ht
  | some p =>
    obtain ⟨x, C1⟩ := p
    rw [q] at e
    dsimp only at e
    cases q2 : h ρ C1 with
    | none => rw [q2] at e; cases e
    | some p2 =>
      obtain ⟨y, C3⟩ := p2
      rw [q2] at e
      dsimp only at e
      by_cases hl : x.length + y.length ≤ 100000
      · rw [if_pos hl] at e; cases e; exact ⟨x, y, C1, rfl, q2, hl, rfl⟩
      · rw [if_neg hl] at e; cases e
theorem line5 {n : Nat} (h : n ≤ 100000) : n < sizeLine := Nat.lt_of_le_of_lt h (by decide)
theorem f_cat {f h : LF} (ha : PE X a (tL X.K f)) (hb : PE X b (tL X.K h)) : PE X (.BinOp a .Add b pos) (tF X.K (lCat f h)) := PE.cq (pe_op op_cat ha hb) fun σ H Q ⟨g, d, C', S, hf, q⟩ => by
  obtain ⟨x, y, C1, q1, q2, q3, rfl⟩ := lCat_some hf
  refine row2L S q1 q2 fun p1 p2 xs ys H' A' gr S' s t s2 t2 => ?_
  exact ⟨p1, p2, xs, ys, rfl, rfl, hide_same _ _ s, hide_same _ _ s2, Nat.le_of_lt (line5 (by rw [t.length, t2.length]; exact q3)), fresh_of gr S' (t.append t2) q⟩
end

/-! ### built-ins with one argument told by values -/
def Fn1 (X : Cx) (f : Value) (k : D → Option D) : Prop :=
  ∃ r, CallR X f r ∧ ∀ x d, k x = some d → ∀ A H0 H v Q, Same H0 H → Dn X.K A H0 v x → (∀ u, (∀ A H, Dn X.K A H u d) → Q u H) → r [v] H Q
section
variable {X : Cx} {e : Expr} {f : EF} {pos p : Pos} {x : Str}
theorem v_fn1 {id : String} {k : D → Option D} (hc : Fn1 X (.builtin id) k) (hg : Gl X x) (hm : X.mg x = none) (hv : bootBuiltins x = some (.builtin id)) (ha : PE X e (tW X.K f)) (hn : x ≠ "__name__" := by decide) (hdb : (x == ("__debug__" : Str)) = false := by decide)
    (he : starEach [e] X.env = (false, eval e X.env) :: starEach [] X.env := by rfl) : PE X (.Call (.Name x p) [e] [] pos) (tV X.K (e1 k f)) := by
  obtain ⟨r, h1, h2⟩ := hc
  refine PE.cq (pe_callB h1 hg hm hv (pa_cons ha pa_nil he) hn hdb he rfl) fun σ H Q ⟨g, d, C', S, hf, q⟩ => ?_
  obtain ⟨y, q1, q2⟩ := e1_some hf
  exact ⟨g, y, C', S, q1, fun v H' A' gr S' dn => h2 y d q2 _ _ H' v Q hide_same dn fun u du => q u H' A' gr S' (du _ _)⟩
theorem v_ty1 {T : String} {k : D → Option D} (hc : Fn1 X (.type T) k) (hg : Gl X x) (hm : X.mg x = none) (hv : bootBuiltins x = some (.type T)) (ha : PE X e (tW X.K f)) (hn : x ≠ "__name__" := by decide) (hdb : (x == ("__debug__" : Str)) = false := by decide)
    (he : starEach [e] X.env = (false, eval e X.env) :: starEach [] X.env := by rfl) : PE X (.Call (.Name x p) [e] [] pos) (tV X.K (e1 k f)) := by
  obtain ⟨r, h1, h2⟩ := hc
  refine PE.cq (pe_callTy h1 hg hm hv (pa_cons ha pa_nil he) hn hdb he rfl) fun σ H Q ⟨g, d, C', S, hf, q⟩ => ?_
  obtain ⟨y, q1, q2⟩ := e1_some hf
  exact ⟨g, y, C', S, q1, fun v H' A' gr S' dn => h2 y d q2 _ _ H' v Q hide_same dn fun u du => q u H' A' gr S' (du _ _)⟩
def kLen : D → Option D
  | .lst ds => some (.int ds.length)
  | .tup ds => some (.int ds.length)
  | _ => none
theorem fn_len : Fn1 X (.builtin "len") kLen := ⟨_, call_len_seq, fun x d hk A H0 H v Q sm dn q => by
  cases dn with
  | lst s t => cases hk; exact ⟨_, _, rfl, .inl (.inl (.inl (sm _ _ s))), by rw [t.length]; exact q _ fun _ _ => .int _⟩
  | tup s t => cases hk; exact ⟨_, _, rfl, .inr (sqT_mono sm s), by rw [t.length]; exact q _ fun _ _ => .int _⟩
  | _ => cases hk⟩
def kAbs : D → Option D
  | .int i => some (.int (if i < 0 then -i else i)) -- ht
  | _ => none
theorem fn_abs : Fn1 X (.builtin "abs") kAbs := ⟨_, call_abs, fun x d hk A H0 H v Q sm dn q => by
  cases dn with
  | int i => cases hk; exact ⟨i, rfl, q _ fun _ _ => .int _⟩
  | _ => cases hk⟩
def kInt : D → Option D
  | .int i => some (.int i)
  | .bl b => some (.int (if b then 1 else 0))
  | _ => none
theorem fn_int : Fn1 X (.type "int") kInt := ⟨_, call_int1, fun x d hk A H0 H v Q sm dn q => by
  cases dn with
  | int i => cases hk; exact .inl ⟨i, rfl, q _ fun _ _ => .int _⟩
  | bl b => cases hk; exact .inr ⟨b, rfl, q _ fun _ _ => .int _⟩
  | _ => cases hk⟩
/-- the ints of data -/
def dInts : List D → Option (List Int)
  | [] => some []
  | .int i :: r => (dInts r).map (i :: ·)
  | _ :: _ => none
theorem dInts_some : ∀ {ds : List D} {ns : List Int}, dInts ds = some ns → ds = ns.map D.int
  | [], ns, h => by cases h; rfl
  | d :: r, ns, h => by
    cases d with
    | int i =>
      unfold dInts at h
      cases q : dInts r with
      | none => rw [q] at h; cases h
      | some m =>
        rw [q] at h
        cases h
        rw [dInts_some q]
        rfl
    | _ => cases h
theorem dInts_map : ∀ ns : List Int, dInts (ns.map D.int) = some ns
  | [] => rfl
  | n :: r => by
    show (dInts (r.map D.int)).map (n :: ·) = _
    rw [dInts_map r]
    rfl
def kSum : D → Option D
  | .lst ds => (dInts ds).map fun ns => .int ns.sum
  | _ => none
theorem fn_sum (hc : X.calm = true) : Fn1 X (.builtin "sum") kSum := ⟨_, cr_sum hc, fun x d hk A H0 H v Q sm dn q => by
  cases dn with
  | @lst a xs ds s t =>
    unfold kSum at hk; dsimp only at hk
    cases r : dInts ds with
    | none => rw [r] at hk; cases hk
    | some ns =>
      rw [r] at hk
      cases hk
      rw [dInts_some r] at t
      exact ⟨a, ns, rfl, .inl (.inl (by rw [← t.ints]; exact sm _ _ s)), q _ fun _ _ => .int _⟩
  | _ => cases hk⟩
/-- the greatest -/
def maxL : List Int → Int
  | [] => 0
  | [x] => x
  | x :: y :: r => max x (maxL (y :: r))
theorem maxL_mem : ∀ (x : Int) (r : List Int), maxL (x :: r) ∈ x :: r ∧ ∀ z ∈ x :: r, z ≤ maxL (x :: r)
  | x, [] => by
    show x ∈ [x] ∧ _
    simp [maxL]
  | x, y :: r => by
    obtain ⟨h1, h2⟩ := maxL_mem y r
    show max x (maxL (y :: r)) ∈ _ ∧ ∀ z ∈ _, z ≤ max x (maxL (y :: r))
    constructor
    · rcases Int.le_total x (maxL (y :: r)) with h | h
      · rw [Int.max_eq_right h]; exact List.mem_cons_of_mem _ h1
      · rw [Int.max_eq_left h]; exact List.mem_cons_self
    · intro z hz
      rcases List.mem_cons.mp hz with rfl | hz -- ht
      · exact Int.le_max_left _ _
      · exact Int.le_trans (h2 z hz) (Int.le_max_right _ _)
def kMax : D → Option D
  | .lst ds => match dInts ds with
    | some (x :: r) => some (.int (maxL (x :: r)))
    | _ => none
  | _ => none
theorem fn_max (hc : X.calm = true) : Fn1 X (.builtin "max") kMax := ⟨_, cr_max hc, fun x d hk A H0 H v Q sm dn q => by
  cases dn with
  | @lst a xs ds s t =>
    unfold kMax at hk; dsimp only at hk
    cases r : dInts ds with
    | none => rw [r] at hk; cases hk
    | some ns =>
      rw [r] at hk
      cases ns with
      | nil => cases hk
      | cons n ns =>
        cases hk
        rw [dInts_some r] at t
        refine ⟨a, n :: ns, rfl, .inl (.inl (by rw [← t.ints]; exact sm _ _ s)), Nat.succ_pos _, fun m hm hle => ?_⟩
        obtain ⟨h1, h2⟩ := maxL_mem n ns
        have e : m = maxL (n :: ns) := Int.le_antisymm (h2 m hm) (hle _ h1)
        rw [e]
        exact q _ fun _ _ => .int _
  | _ => cases hk⟩
/-- list(xs), list(t) -/
theorem f_list {f : LF} (hg : Gl X "list") (hm : X.mg "list" = none) (ha : PE X e (tL X.K f)) (he : starEach [e] X.env = (false, eval e X.env) :: starEach [] X.env := by rfl) : PE X (.Call (.Name "list" p) [e] [] pos) (tF X.K f) :=
  PE.cq (pe_callTy call_list_of hg hm (by decide +kernel) (pa_cons ha pa_nil he) (by decide) (by decide) he rfl) fun σ H Q ⟨g, ds, C', S, hf, q⟩ =>
    ⟨g, ds, C', S, hf, fun a xs H' A' gr S' s t => ⟨a, xs, rfl, .inl (.inl (.inl (hide_same _ _ s))), fresh_of gr S' t q⟩⟩
def asT (f : EF) : LF := fun ρ C => match f ρ C with
  | some (.tup ds, C1) => some (ds, C1)
  | _ => none
theorem f_listT (hg : Gl X "list") (hm : X.mg "list" = none) (ha : PE X e (tV X.K f)) (he : starEach [e] X.env = (false, eval e X.env) :: starEach [] X.env := by rfl) : PE X (.Call (.Name "list" p) [e] [] pos) (tF X.K (asT f)) :=
  PE.cq (pe_callTy call_list_of hg hm (by decide +kernel) (pa_cons ha pa_nil he) (by decide) (by decide) he rfl) fun σ H Q ⟨g, ds, C', S, hf, q⟩ => by
    unfold asT at hf
    cases q1 : f g.ρ g.C with
    | none => rw [q1] at hf; cases hf
    | some pr =>
      obtain ⟨d, C1⟩ := pr
      rw [q1] at hf
      cases d with
      | tup es =>
        cases hf
        refine ⟨g, _, _, S, q1, fun v H' A' gr S' dn => ?_⟩
        cases dn with
        | tup s t => exact ⟨_, _, rfl, .inr (sqT_mono hide_same s), fresh_of gr S' t q⟩
      | _ => cases hf
def tOfL (f : LF) : EF := fun ρ C => match f ρ C with
  | some (ds, C1) => some (.tup ds, C1)
  | none => none
theorem v_tuple {f : LF} (hg : Gl X "tuple") (hm : X.mg "tuple" = none) (ha : PE X e (tL X.K f)) (he : starEach [e] X.env = (false, eval e X.env) :: starEach [] X.env := by rfl) : PE X (.Call (.Name "tuple" p) [e] [] pos) (tV X.K (tOfL f)) :=
  PE.cq (pe_callTy call_tuple_of hg hm (by decide +kernel) (pa_cons ha pa_nil he) (by decide) (by decide) he rfl) fun σ H Q ⟨g, d, C', S, hf, q⟩ => by
    unfold tOfL at hf
    cases q1 : f g.ρ g.C with
    | none => rw [q1] at hf; cases hf
    | some pr =>
      obtain ⟨ds, C1⟩ := pr
      rw [q1] at hf
      cases hf
      refine ⟨g, _, _, S, q1, fun a xs H' A' gr S' s t => ⟨a, xs, rfl, .inl ⟨.inl (.inl (hide_same _ _ s)), fun l hl => ?_⟩⟩⟩
      obtain ⟨n1, n2, n3⟩ := new_tup S' hl t
      exact q _ _ A' (gr.trans n3) n1 n2
end
end Ht


set_option maxRecDepth 100000
set_option maxHeartbeats 1000000 -- ht
/-! The value layer: equality, calls of defs, targets, what is walked, list comprehensions. -/
namespace Ht
open PySem PySem.Spec PyProof.Rows L2 -- ht

/-! ### equality -/
mutual
def toP : D → PyData
  | .non => .none
  | .bl b => .bool b
  | .int i => .int i
  | .str x => .str x
  | .lst ds => .list (toPs ds)
  | .tup ds => .tuple (toPs ds)
  | .mu _ => .none
def toPs : List D → List PyData
  | [] => []
  | d :: r => toP d :: toPs r
end
mutual
def okD : Nat → D → Bool
  | _, .non => true
  | _, .bl _ => true
  | _, .int _ => true
  | _, .str x => PyData.strOk x
  | 0, .lst _ => false
  | n + 1, .lst ds => okDs n ds
  | 0, .tup _ => false
  | n + 1, .tup ds => okDs n ds
  | _, .mu _ => false
def okDs : Nat → List D → Bool
  | _, [] => true
  | n, d :: r => okD n d && okDs n r
end
theorem toPs_length : ∀ ds : List D, (toPs ds).length = ds.length
  | [] => rfl
  | _ :: r => by simp [toPs, toPs_length r]
mutual
theorem okD_lay : ∀ (n : Nat) (d : D), okD n d = true → (toP d).canLay0 = true ∧ (toP d).depth ≤ n + 1
  | _, .non, _ => ⟨rfl, by simp [toP, PyData.depth]⟩
  | _, .bl _, _ => ⟨rfl, by simp [toP, PyData.depth]⟩
  | _, .int _, _ => ⟨rfl, by simp [toP, PyData.depth]⟩
  | _, .str x, h => by
    have h' : PyData.strOk x = true := by cases ‹Nat› <;> exact h
    exact ⟨by simp [toP, PyData.canLay0, h'], by simp [toP, PyData.depth]⟩
  | 0, .lst _, h => by cases h
  | n + 1, .lst ds, h => by
    obtain ⟨h1, h2⟩ := okDs_lay n ds h
    exact ⟨by simp [toP, PyData.canLay0, h1], by simp [toP, PyData.depth]; omega⟩
  | 0, .tup _, h => by cases h
  | n + 1, .tup ds, h => by
    obtain ⟨h1, h2⟩ := okDs_lay n ds h
    exact ⟨by simp [toP, PyData.canLay0, h1], by simp [toP, PyData.depth]; omega⟩
  | n, .mu _, h => by cases n <;> cases h
theorem okDs_lay : ∀ (n : Nat) (ds : List D), okDs n ds = true → PyData.canLayAll0 (toPs ds) = true ∧ PyData.depthAll (toPs ds) ≤ n + 1
  | _, [], _ => ⟨rfl, by simp [toPs, PyData.depthAll]⟩
  | n, d :: r, h => by
    have h' : okD n d = true ∧ okDs n r = true := by simpa [okDs] using h
    obtain ⟨a1, a2⟩ := okD_lay n d h'.1
    obtain ⟨b1, b2⟩ := okDs_lay n r h'.2
    exact ⟨by simp [toPs, PyData.canLayAll0, a1, b1], by simp [toPs, PyData.depthAll]; omega⟩
end
theorem okD_shaped {d : D} (h : okD 60 d = true) : SeqAt.shaped (toP d) = true := by
  obtain ⟨h1, h2⟩ := okD_lay 60 d h
  unfold SeqAt.shaped
  rw [h1, Bool.true_and]
  exact decide_eq_true (by omega) -- ht
mutual
theorem Dn.dp {K : PySem.W.Frag} {A : List Addr} {H0 H : Hp} (sm : Same H0 H) : ∀ {v : V} {d : D} (n : Nat), okD n d = true → Dn K A H0 v d → Dp K H v (toP d)
  | _, _, _, _, .non => .non
  | _, _, _, _, .bl b => .bl b
  | _, _, _, _, .int i => .int i
  | _, _, _, _, .str x => .str x
  | _, _, 0, h, .lst s t => by cases h
  | _, _, n + 1, h, .lst s t => .lst (.inl (.inl (sm _ _ s))) (DnAll.dp sm n h t)
  | _, _, 0, h, .tup s t => by cases h
  | _, _, n + 1, h, .tup s t => .tup (sqT_mono sm s) (DnAll.dp sm n h t)
  | _, _, n, h, .mu e => by cases n <;> cases h
theorem DnAll.dp {K : PySem.W.Frag} {A : List Addr} {H0 H : Hp} (sm : Same H0 H) : ∀ {vs : List V} {ds : List D} (n : Nat), okDs n ds = true → DnAll K A H0 vs ds → DpAll K H vs (toPs ds)
  | _, _, _, _, .nil => .nil
  | _, _, n, h, .cons a b => by
    have h' := Bool.and_eq_true_iff.mp (by simpa only [okDs] using h)
    exact .cons (Dn.dp sm n h'.1 a) (DnAll.dp sm n h'.2 b)
end
def eqP (x y : D) : Bool := PyData.eqv (toP x) (toP y)
def kEq (x y : D) : Option D := if okD 60 x = true ∧ okD 60 y = true then some (.bl (eqP x y)) else none
def kNe (x y : D) : Option D := if okD 60 x = true ∧ okD 60 y = true then some (.bl (!eqP x y)) else none
mutual
theorem eqv_refl : ∀ (n : Nat) (d : D), okD n d = true → PyData.eqv (toP d) (toP d) = true
  | _, .non, _ => rfl
  | _, .bl _, _ => by simp [toP, PyData.eqv]
  | _, .int _, _ => by simp [toP, PyData.eqv]
  | _, .str x, _ => by simp [toP, PyData.eqv]
  | 0, .lst _, h => by cases h
  | n + 1, .lst ds, h => by simp [toP, PyData.eqv, eqvAll_refl n ds h]
  | 0, .tup _, h => by cases h
  | n + 1, .tup ds, h => by simp [toP, PyData.eqv, eqvAll_refl n ds h]
  | _, .mu _, _ => rfl
theorem eqvAll_refl : ∀ (n : Nat) (ds : List D), okDs n ds = true → PyData.eqvAll (toPs ds) (toPs ds) = true
  | _, [], _ => rfl
  | n, d :: r, h => by
    have h' : okD n d = true ∧ okDs n r = true := by simpa [okDs] using h
    simp [toPs, PyData.eqvAll, eqv_refl n d h'.1, eqvAll_refl n r h'.2]
end
theorem eqP_refl {d : D} (h : okD 60 d = true) : eqP d d = true := eqv_refl 60 d h
section
variable {X : Cx} {a b e : Expr} {f h : EF} {pos p : Pos}
theorem v_eq (hu : X.A.units + 64 < cLine) (ha : PE X a (tW X.K f)) (hb : PE X b (tW X.K h)) : PE X (.Compare a [.Eq] [b] pos) (tV X.K (e2 kEq f h)) := PE.cq (pe_cmpR (op_eqD hu) ha hb (nomark _)) fun σ H Q ⟨g, d, C', S, hf, q⟩ => by
  obtain ⟨x, y, C1, q1, q2, q3⟩ := e2_some hf
  refine row2W S q1 q2 fun v w H' A' gr S' dv dw => ?_
  unfold kEq at q3
  by_cases hk : okD 60 x = true ∧ okD 60 y = true
  · rw [if_pos hk] at q3
    cases q3
    exact ⟨_, _, dv.dp hide_same 60 hk.1, dw.dp hide_same 60 hk.2, okD_shaped hk.1, okD_shaped hk.2, q _ H' A' gr S' (.bl _)⟩
  · rw [if_neg hk] at q3; cases q3
theorem v_ne (hu : X.A.units + 64 < cLine) (ha : PE X a (tW X.K f)) (hb : PE X b (tW X.K h)) : PE X (.Compare a [.NotEq] [b] pos) (tV X.K (e2 kNe f h)) := PE.cq (pe_cmpR (op_neD hu) ha hb (nomark _)) fun σ H Q ⟨g, d, C', S, hf, q⟩ => by
  obtain ⟨x, y, C1, q1, q2, q3⟩ := e2_some hf
  refine row2W S q1 q2 fun v w H' A' gr S' dv dw => ?_
  unfold kNe at q3
  by_cases hk : okD 60 x = true ∧ okD 60 y = true
  · rw [if_pos hk] at q3
    cases q3
    exact ⟨_, _, dv.dp hide_same 60 hk.1, dw.dp hide_same 60 hk.2, okD_shaped hk.1, okD_shaped hk.2, q _ H' A' gr S' (.bl _)⟩
  · rw [if_neg hk] at q3; cases q3
theorem c_cmpV {op : CmpOp} {fe : EF} {r : R2} {ta tb : TE} (ho : OpR X (compareOp op) r) (ha : PE X a ta) (hb : PE X b tb) (hm : behindInMarks op b = false) (hc : ∀ σ H Q, tV X.K fe σ H Q → tOp r ta tb σ H Q) : PT X (.Compare a [op] [b] pos) (tC X.K (bOf fe)) :=
  PT.cq (pt_cmpR ho ha hb hm) fun σ H Q hq => tC_of (t := tOp r ta tb) hq fun Q' => hc σ H Q'
theorem c_eq (hu : X.A.units + 64 < cLine) (ha : PE X a (tW X.K f)) (hb : PE X b (tW X.K h)) : PT X (.Compare a [.Eq] [b] pos) (tC X.K (bOf (e2 kEq f h))) := c_cmpV (op_eqD hu) ha hb (nomark _) fun σ H Q ⟨g, d, C', S, hf, q⟩ => by
  obtain ⟨x, y, C1, q1, q2, q3⟩ := e2_some hf
  refine row2W S q1 q2 fun v w H' A' gr S' dv dw => ?_
  unfold kEq at q3
  by_cases hk : okD 60 x = true ∧ okD 60 y = true
  · rw [if_pos hk] at q3
    cases q3
    exact ⟨_, _, dv.dp hide_same 60 hk.1, dw.dp hide_same 60 hk.2, okD_shaped hk.1, okD_shaped hk.2, q _ H' A' gr S' (.bl _)⟩
  · rw [if_neg hk] at q3; cases q3
theorem c_ne (hu : X.A.units + 64 < cLine) (ha : PE X a (tW X.K f)) (hb : PE X b (tW X.K h)) : PT X (.Compare a [.NotEq] [b] pos) (tC X.K (bOf (e2 kNe f h))) := c_cmpV (op_neD hu) ha hb (nomark _) fun σ H Q ⟨g, d, C', S, hf, q⟩ => by
  obtain ⟨x, y, C1, q1, q2, q3⟩ := e2_some hf
  refine row2W S q1 q2 fun v w H' A' gr S' dv dw => ?_
  unfold kNe at q3
  by_cases hk : okD 60 x = true ∧ okD 60 y = true
  · rw [if_pos hk] at q3
    cases q3
    exact ⟨_, _, dv.dp hide_same 60 hk.1, dw.dp hide_same 60 hk.2, okD_shaped hk.1, okD_shaped hk.2, q _ H' A' gr S' (.bl _)⟩
  · rw [if_neg hk] at q3; cases q3
/-- is None -/
def isNon : D → Bool
  | .non => true
  | _ => false
theorem Dn.isNon {K : PySem.W.Frag} {A : List Addr} {H : Hp} {v : V} {d : D} (h : Dn K A H v d) : decide (v = .non) = isNon d := by
  cases h <;> simp [Ht.isNon]
def kIs (x y : D) : Option D := match y with
  | .non => some (.bl (isNon x))
  | _ => none
def kIsNot (x y : D) : Option D := match y with
  | .non => some (.bl (!isNon x))
  | _ => none
theorem op2_is : Op2 X (compareOp .Is) kIs := ⟨_, op_isN, fun x y d hk A H0 H v w Q sm dv dw q => by
  cases dw with
  | non => cases hk; exact ⟨rfl, by rw [dv.isNon]; exact q _ (.bl _)⟩
  | _ => cases hk⟩
theorem op2_isNot : Op2 X (compareOp .IsNot) kIsNot := ⟨_, op_notN, fun x y d hk A H0 H v w Q sm dv dw q => by
  cases dw with
  | non => cases hk; exact ⟨rfl, by rw [dv.isNon]; exact q _ (.bl _)⟩
  | _ => cases hk⟩
/-! ### ints -/
abbrev kAdd : D → D → Option D := kI (fun _ _ => true) fun i j => .int (i + j)
abbrev kSub : D → D → Option D := kI (fun _ _ => true) fun i j => .int (i - j)
def mulFit (i j : Int) : Bool := decide (i.natAbs < 2 ^ 64 ∨ j.natAbs < 2 ^ 64 ∨ i.natAbs.log2 + j.natAbs.log2 < 130000000)
abbrev kMul : D → D → Option D := kI mulFit fun i j => .int (i * j)
def ne0 (_ j : Int) : Bool := decide (j ≠ 0)
abbrev kDiv : D → D → Option D := kI ne0 fun i j => .int (i.fdiv j)
abbrev kMod : D → D → Option D := kI ne0 fun i j => .int (i.fmod j)
def powFit (i j : Int) : Bool := decide (0 ≤ j ∧ j ≤ 1000000 ∧ i.natAbs < 2 ^ 64)
abbrev kPow : D → D → Option D := kI powFit fun i j => .int (i ^ j.toNat)
abbrev kCmp (r : Int → Int → Bool) : D → D → Option D := kI (fun _ _ => true) fun i j => .bl (r i j)
theorem op2_add : Op2 X (binaryOp .Add) kAdd := op2_int0 op_add fun _ _ _ _ => .int _
theorem op2_sub : Op2 X (binaryOp .Sub) kSub := op2_int0 op_sub fun _ _ _ _ => .int _
theorem mulFit_ok {i j : Int} (h : mulFit i j = true) : IntMulOk i j := by
  rcases (of_decide_eq_true h : i.natAbs < 2 ^ 64 ∨ j.natAbs < 2 ^ 64 ∨ i.natAbs.log2 + j.natAbs.log2 < 130000000) with h' | h' | h'
  · exact .of_left (intBits_le_64 (by omega) (by omega))
  · exact .of_right (intBits_le_64 (by omega) (by omega))
  have b : ∀ x : Int, Builtin.Int.intBits x ≤ x.natAbs.log2 + 1 := fun x => by -- ht
    unfold Builtin.Int.intBits
    split
    · exact Nat.zero_le _
    · exact Nat.le_refl _
  have b1 := b i
  have b2 := b j
  have bl : bitsLine = 134217728 := by decide
  intro z
  have z1 : Builtin.Int.intTooBig (Builtin.Int.intBits i + Builtin.Int.intBits j) = true := (Bool.and_eq_true_iff.mp z).2
  have z2 : ((Builtin.Int.intBits i : Int) + (Builtin.Int.intBits j : Int)) > (bitsLine : Int) := of_decide_eq_true z1
  omega
theorem op2_mul : Op2 X (binaryOp .Mult) kMul := op2_int (Cc := fun i j => IntMulOk i j) (g := fun i j => .int (i * j)) (opI fun _ _ _ _ _ _ _ hc q => mul_int q hc) (fun _ _ => mulFit_ok) fun _ _ _ _ _ => .int _
theorem op2_mod : Op2 X (binaryOp .Mod) kMod := op2_int op_modN (fun _ _ h => of_decide_eq_true h) fun _ _ _ _ _ => .int _
theorem op2_pow : Op2 X (binaryOp .Pow) kPow := op2_int op_pow (fun _ _ h => show CPow _ _ from of_decide_eq_true (p := _ ∧ _ ∧ _) h) fun _ _ _ _ _ => .int _
theorem op2_lt : Op2 X (compareOp .Lt) (kCmp fun i j => decide (i < j)) := op2_int0 op_lt fun _ _ _ _ => .bl _
theorem op2_le : Op2 X (compareOp .LtE) (kCmp fun i j => decide (i ≤ j)) := op2_int0 op_le fun _ _ _ _ => .bl _
theorem op2_gt : Op2 X (compareOp .Gt) (kCmp fun i j => decide (j < i)) := op2_int0 op_gt fun _ _ _ _ => .bl _
theorem op2_ge : Op2 X (compareOp .GtE) (kCmp fun i j => decide (j ≤ i)) := op2_int0 op_ge fun _ _ _ _ => .bl _
/-- // by any divisor but 0: where the run bears the division of great numbers -/
structure Dv (X : Cx) : Prop where
  seer : X.base.NoSeer
  tree : X.prog.given.tree = none
  depth : X.A.depth + 100 < recursionLimit
  stack : ∃ env l, X.stack = env :: l ∧ env.scope.isGenerator = false ∧ env.scope.isCoroutine = false ∧ env.builtins = builtinsNs ∧ env.globals = mainGlobals
theorem Dv.room {X : Cx} {pins : List (Addr × Obj)} {σ : L2.St} {H : Hp} {s : Shared} (dv : Dv X) (I : Inv X pins σ H s) : PylongRoom (model X.prog X.w) X.A s := by
  obtain ⟨env, l, e, h1, h2, h3, h4⟩ := dv.stack
  exact PylongRoom.of I.nolimit dv.depth (SeerAt.of (dv.seer.keeps I.bk) dv.tree (I.ok.frames.trans (congrArg some e)) h1 h2 h3 h4)
theorem op2_div (dv : Dv X) : Op2 X (binaryOp .FloorDiv) kDiv := by
  refine op2_int (Cc := fun _ j => j ≠ 0) (g := fun i j => .int (i.fdiv j)) ?_ (fun _ _ h => of_decide_eq_true h) fun _ _ _ _ _ => .int _
  intro pins s σ H x y v u Q I rx ry hq -- ht
  obtain ⟨i, j, rfl, rfl, hc, q⟩ := hq
  obtain ⟨t, rfl⟩ := rx
  obtain ⟨t', rfl⟩ := ry
  exact floordiv_int hc ⟨.int (i.fdiv j), H, I.tok _, ⟨_, rfl⟩, q⟩ (.inr (dv.room I))
end

/-! ### calls of defs -/
abbrev FF := List D → Mem → Option (D × Mem)
def spD (K : PySem.W.Frag) (n : Nat) (F : FF) : Sp := fun vs H Q _ => ∃ (Z : Addr → Prop) (A : List Addr) (C : Mem) (ds : List D) (d : D) (C' : Mem),
  ds.length = n ∧ DnAll K A (hide H (Hid0 Z A)) vs ds ∧ MemOk K A C H (hide H (Hid0 Z A)) ∧ (∀ a, Z a → H a ≠ none) ∧ (∀ a ∈ A, H a ≠ none) ∧ F ds C = some (d, C') ∧
  ∀ v H' A', Grow A A' H H' → (∀ a ∈ A', H' a ≠ none) → MemOk K A' C' H' (hide H' (Hid0 Z A')) → Dn K A' (hide H' (Hid0 Z A')) v d → Q v H'
theorem hide_congr {H : Hp} {P R : Addr → Prop} (h : ∀ a, P a ↔ R a) : hide H P = hide H R := by
  have e : P = R := funext fun a => propext (h a)
  rw [e]
theorem hid_as {g : Gh} {H : Hp} : hide H (Hid0 (fun a => g.Z a ∨ Own g.ρ g.o a) g.A) = hide H (Hid g) := hide_congr fun a => by
  constructor
  · rintro ((z | z) | z)
    · exact .inl (.inl z)
    · exact .inr z
    · exact .inl (.inr z)
  · rintro ((z | z) | z)
    · exact .inl (.inl z)
    · exact .inr z
    · exact .inl (.inr z)
def eCall (F : FF) (fs : LF) : EF := fun ρ C => match fs ρ C with
  | some (ds, C1) => F ds C1
  | none => none
theorem call_cq {X : Cx} {n : Nat} {F : FF} {fs : LF} {t : TA} {σ : L2.St} {H : Hp} {Q : VK} (h : tV X.K (fun ρ C => match fs ρ C with | some (ds, C1) => if ds.length = n then F ds C1 else none | none => none) σ H Q)
    (ht : ∀ Q', tA X.K fs σ H Q' → t σ H Q') : t σ H fun vs H1 => spD X.K n F (vs ++ []) H1 Q E0 := by
  obtain ⟨g, d, C', S, hf, q⟩ := h
  dsimp only at hf
  cases q1 : fs g.ρ g.C with
  | none => rw [q1] at hf; cases hf
  | some p =>
    obtain ⟨ds, C1⟩ := p
    rw [q1] at hf
    dsimp only at hf
    by_cases hn : ds.length = n
    · rw [if_pos hn] at hf
      refine ht _ ⟨g, ds, C1, S, q1, fun vs H' A' gr S' dn => ?_⟩
      show spD X.K n F (vs ++ []) H' Q E0
      rw [List.append_nil]
      refine ⟨fun a => g.Z a ∨ Own g.ρ g.o a, A', C1, ds, d, C', hn, ?_, ?_, fun a hz => ?_, S'.al, hf, fun v H2 A2 g2 al2 m2 d2 => ?_⟩
      · rw [hid_as (g := { g with A := A', C := C1 })]; exact dn
      · rw [hid_as (g := { g with A := A', C := C1 })]; exact S'.mem
      · rcases hz with hz | ⟨i, es, h1, h2⟩
        · exact S'.zl a hz
        · obtain ⟨_, xs, h3, _⟩ := S'.ow i es h1
          have h3 : H' (g.o i) = some (.lst xs) := h3
          rw [← h2, h3]
          exact fun z => by cases z
      · have e := hid_as (g := { g with A := A2, C := C' }) (H := H2)
        exact q v H2 A2 (gr.trans g2) (S'.grow (C' := C') g2 al2 (by rw [← e]; exact m2)) (by rw [← e]; exact d2)
    · rw [if_neg hn] at hf; cases hf
def eCallN (n : Nat) (F : FF) (fs : LF) : EF := fun ρ C => match fs ρ C with
  | some (ds, C1) => if ds.length = n then F ds C1 else none
  | none => none
section
variable {X : Cx} {k n : Nat} {fa : Addr} {fd : FuncData} {ps : List Str} {F : FF} {x : Str} {p pos : Pos} {e : Expr} {es : List Expr} {fs : LF}
theorem v_call (G : FnOk X.prog X.w X.K X.mg X.base CX0 k fa fd ps (spD X.K n F)) (hr : Room k X.A) (hg : Gl X x) (hm : X.mg x = some (.ref fa)) (hk : PySem.W.keepIn X.K (.ref fa) = true) (hb : Binds X.K fd ps [])
    (ha : PA X (e :: es) (tA X.K fs)) (hdb : (x == ("__debug__" : Str)) = false := by decide) (he : starEach (e :: es) X.env = (false, eval e X.env) :: starEach es X.env := by rfl) (hpl : (backTo pos (starEach es X.env)).any (·.1) = false := by rfl) :
    PE X (.Call (.Name x p) (e :: es) [] pos) (tV X.K (eCallN n F fs)) := PE.cq (pe_call G hr hg hm hk hb .nil pass0 ha hdb he hpl) fun σ H Q hq => call_cq (n := n) (F := F) (fs := fs) (t := tA X.K fs) hq fun _ z => z
end
theorem eCallN_eq {n : Nat} {F : FF} {fs : LF} {ρ : Rho} {C C1 : Mem} {ds : List D} (h : fs ρ C = some (ds, C1)) (hn : ds.length = n) : eCallN n F fs ρ C = F ds C1 := by
  unfold eCallN
  rw [h]
  dsimp only
  rw [if_pos hn]

/-! ### targets -/
abbrev GF := D → Rho → Option Rho
/-- v, that is d, goes to the slots ts -/
def gD (K : PySem.W.Frag) (ts : List Nat) (k : GF) : TG := fun v σ H Q => ∃ (g : Gh) (d : D) (ρ' : Rho), Ds K g H σ ∧ Dn K g.A (hide H (Hid g)) v d ∧ k d g.ρ = some ρ' ∧
  ∀ σ', Ds K { g with ρ := ρ' } H σ' → (∀ vs, (∀ i ∈ ts, i ∈ vs) → wipe σ' vs = wipe σ vs) → Same (hide H (Hid g)) (hide H (Hid { g with ρ := ρ' })) → Q σ' H
def gdAll (K : PySem.W.Frag) (ts : List Nat) (k : List D → Rho → Option Rho) : TGs := fun vs σ H Q => ∃ (g : Gh) (ds : List D) (ρ' : Rho), Ds K g H σ ∧ DnAll K g.A (hide H (Hid g)) vs ds ∧ k ds g.ρ = some ρ' ∧
  ∀ σ', Ds K { g with ρ := ρ' } H σ' → (∀ vs, (∀ i ∈ ts, i ∈ vs) → wipe σ' vs = wipe σ vs) → Same (hide H (Hid g)) (hide H (Hid { g with ρ := ρ' })) → Q σ' H
theorem PG.cq {X : Cx} {tg : Expr} {t t' : TG} (h : PG X tg t) (c : ∀ v σ H Q, t' v σ H Q → t v σ H Q) : PG X tg t' := ⟨fun pins s σ H v u Q I r q => h.run pins s σ H v u Q I r (c v σ H Q q)⟩
theorem PGs.cq {X : Cx} {tg : List Expr} {t t' : TGs} (h : PGs X tg t) (c : ∀ v σ H Q, t' v σ H Q → t v σ H Q) : PGs X tg t' := ⟨fun pins s σ H v u Q I r q => h.run pins s σ H v u Q I r (c v σ H Q q)⟩
theorem set_get {α : Type} {l : List α} {i j : Nat} {x y : α} (h : (l.set i x)[j]? = some y) : (j = i ∧ y = x) ∨ (j ≠ i ∧ l[j]? = some y) := by
  by_cases e : i = j
  · subst e
    by_cases hl : i < l.length
    · rw [List.getElem?_set_self hl] at h
      exact .inl ⟨rfl, (Option.some.inj h).symm⟩
    · rw [List.getElem?_eq_none (by simpa using hl)] at h; cases h
  · rw [List.getElem?_set_ne e] at h
    exact .inr ⟨fun z => e z.symm, h⟩
/-- own lists only become fewer -/
theorem own_set {g : Gh} {i : Nat} {s : Sl} (hs : ∀ ds, s ≠ .ow ds) {a : Addr} (h : Own (g.ρ.set i s) g.o a) : Own g.ρ g.o a := by
  obtain ⟨j, ds, h1, h2⟩ := h
  rcases set_get h1 with ⟨_, e⟩ | ⟨_, e⟩
  · exact absurd e.symm (hs ds)
  · exact ⟨j, ds, e, h2⟩
theorem hid_own {g : Gh} {ρ' : Rho} {H : Hp} (h : ∀ a, Own ρ' g.o a → Own g.ρ g.o a) : Same (hide H (Hid g)) (hide H (Hid { g with ρ := ρ' })) := hide_sub fun a x hn e => ⟨fun z => hn (by
  rcases z with z | z
  · exact .inl z
  · exact .inr (h a z)), e⟩
/-- slots lose their own lists, get data -/
theorem Ds.slots {K : PySem.W.Frag} {g : Gh} {H : Hp} {σ σ' : L2.St} {ρ' : Rho} (S : Ds K g H σ) (hl : σ'.length = ρ'.length)
    (how : ∀ (i : Nat) (ds : List D), ρ'[i]? = some (.ow ds) → g.ρ[i]? = some (.ow ds) ∧ σ'[i]? = σ[i]?)
    (him : ∀ (i : Nat) (d : D), ρ'[i]? = some (.im d) → ∃ v, σ'[i]? = some (some v) ∧ Dn K g.A (hide H (Hid { g with ρ := ρ' })) v d) : Ds K { g with ρ := ρ' } H σ' := by
  have sn : Same (hide H (Hid g)) (hide H (Hid { g with ρ := ρ' })) := hid_own fun a ⟨i, ds, h1, h2⟩ => ⟨i, ds, (how i ds h1).1, h2⟩
  refine ⟨S.base, S.zl, S.al, ⟨S.mem.nd, S.mem.len, fun i a mo h1 h2 => ?_⟩, fun i j ds es h1 h2 h3 => S.oinj i j ds es (how i ds h1).1 (how j es h2).1 h3, fun i ds h => S.ofr i ds (how i ds h).1, hl, him, fun i ds h => ?_⟩
  · have q := S.mem.at_ i a mo h1 h2
    cases mo with
    | lst ds =>
      obtain ⟨xs, h3, h4⟩ := q
      exact ⟨xs, h3, h4.mono (Pre.refl _) sn⟩
  · obtain ⟨h1, xs, h2, h3⟩ := S.ow i ds (how i ds h).1
    exact ⟨(how i ds h).2.trans h1, xs, h2, h3.mono (Pre.refl _) sn⟩
theorem Ds.setIm {K : PySem.W.Frag} {g : Gh} {H : Hp} {σ : L2.St} {i : Nat} {v : V} {d : D} (S : Ds K g H σ) (dn : Dn K g.A (hide H (Hid g)) v d) (hi : i < g.ρ.length) :
    Ds K { g with ρ := g.ρ.set i (.im d) } H (σ.set i (some v)) ∧ Same (hide H (Hid g)) (hide H (Hid { g with ρ := g.ρ.set i (.im d) })) := by
  have sn : Same (hide H (Hid g)) (hide H (Hid { g with ρ := g.ρ.set i (.im d) })) := hid_own fun a h => own_set (fun _ z => by cases z) h
  refine ⟨S.slots (by simp [S.len]) (fun j ds h => ?_) (fun j d' h => ?_), sn⟩
  · rcases set_get h with ⟨_, e⟩ | ⟨ne, e⟩
    · cases e
    · exact ⟨e, List.getElem?_set_ne (fun z => ne z.symm)⟩
  · rcases set_get h with ⟨e1, e⟩ | ⟨ne, e⟩
    · cases e
      subst e1
      exact ⟨v, List.getElem?_set_self (by rw [S.len]; exact hi), dn.mono (Pre.refl _) sn⟩
    · obtain ⟨u, h1, h2⟩ := S.im j d' e
      exact ⟨u, by rw [List.getElem?_set_ne (fun z => ne z.symm)]; exact h1, h2.mono (Pre.refl _) sn⟩
def gSet (i : Nat) : GF := fun d ρ => if i < ρ.length then some (ρ.set i (.im d)) else none
theorem wipe_set {σ : L2.St} {i : Nat} {x : Option V} : ∀ {vs : List Nat}, i ∈ vs → wipe (σ.set i x) vs = wipe σ vs
  | [], h => by cases h
  | v :: vs, h => by
    unfold wipe
    by_cases e : i ∈ vs
    · rw [wipe_set e]
    · have e2 : i = v := by rcases List.mem_cons.mp h with q | q; exact q; exact absurd q e
      subst e2
      have go : ∀ ws : List Nat, i ∉ ws → wipe (σ.set i x) ws = (wipe σ ws).set i x := by
        intro ws
        induction ws with
        | nil => intro _; rfl
        | cons w ws ih =>
          intro hn
          unfold wipe
          rw [ih (fun z => hn (List.mem_cons_of_mem _ z)), List.set_comm _ _ (fun z => hn (by rw [z]; exact List.mem_cons_self))]
      rw [go vs e, List.set_set]
section
variable {X : Cx} {tg : Expr}
theorem g_name (i : Nat) (h : PG X tg (gName i)) : PG X tg (gD X.K [i] (gSet i)) := PG.cq h fun v σ H Q ⟨g, d, ρ', S, dn, hk, q⟩ => by
  unfold gSet at hk
  by_cases hi : i < g.ρ.length
  · rw [if_pos hi] at hk
    cases hk
    obtain ⟨h1, h2⟩ := S.setIm dn hi
    exact q _ h1 (fun vs hv => wipe_set (hv i (by simp))) h2
  · rw [if_neg hi] at hk; cases hk
def gsNil : List D → Rho → Option Rho := fun ds ρ => match ds with
  | [] => some ρ
  | _ => none
def gsCons (k : GF) (r : List D → Rho → Option Rho) : List D → Rho → Option Rho := fun ds ρ => match ds with
  | d :: es => match k d ρ with
    | some ρ1 => r es ρ1
    | none => none
  | [] => none
theorem gs_nil : PGs X [] (gdAll X.K [] gsNil) := PGs.cq pgs_nil fun vs σ H Q ⟨g, ds, ρ', S, dn, hk, q⟩ => by
  cases dn with
  | nil => cases hk; exact ⟨rfl, q σ S (fun _ _ => rfl) (Same.refl _)⟩
  | cons => cases hk
theorem gs_cons {e : Expr} {es : List Expr} {t1 t2 : List Nat} {k : GF} {r : List D → Rho → Option Rho} (h1 : PG X e (gD X.K t1 k)) (h2 : PGs X es (gdAll X.K t2 r))
    (hs : (assignEach (e :: es) X.env).map (·.2) = assign e X.env :: (assignEach es X.env).map (·.2) := by rfl) : PGs X (e :: es) (gdAll X.K (t1 ++ t2) (gsCons k r)) := PGs.cq (pgs_cons h1 h2 hs) fun vs σ H Q ⟨g, ds, ρ', S, dn, hk, q⟩ => by
  cases dn with
  | nil => cases hk
  | @cons v vs d ds dv dr =>
    unfold gsCons at hk
    dsimp only at hk
    cases q1 : k d g.ρ with
    | none => rw [q1] at hk; cases hk
    | some ρ1 =>
      rw [q1] at hk
      refine ⟨v, vs, rfl, g, d, ρ1, S, dv, q1, fun σ1 S1 w1 s1 => ⟨{ g with ρ := ρ1 }, ds, ρ', S1, dr.mono (Pre.refl _) s1, hk, fun σ2 S2 w2 s2 => ?_⟩⟩
      exact q σ2 S2 (fun ws hw => (w2 ws fun i hi => hw i (List.mem_append_right _ hi)).trans (w1 ws fun i hi => hw i (List.mem_append_left _ hi))) (s1.trans s2)
def gTupD (n : Nat) (r : List D → Rho → Option Rho) : GF := fun d ρ => match d with
  | .tup ds => if ds.length = n then r ds ρ else none
  | _ => none
theorem g_tup {es : List Expr} {k n : Nat} {ts : List Nat} {r : List D → Rho → Option Rho} {pos : Pos} (hc : X.calm = true) (h : PGs X es (gdAll X.K ts r)) (hn : (assignEach es X.env).length = n := by rfl) (hst : (assignEach es X.env).findIdx? (·.1) = none := by rfl) :
    PG X (.Tuple es k pos) (gD X.K ts (gTupD n r)) := PG.cq (pg_tup hc h hn hst) fun v σ H Q ⟨g, d, ρ', S, dn, hk, q⟩ => by
  cases dn with
  | @tup a xs ds s t =>
    unfold gTupD at hk
    dsimp only at hk
    by_cases hl : ds.length = n
    · rw [if_pos hl] at hk
      exact ⟨a, xs, rfl, sqT_mono hide_same s, t.length.trans hl, g, ds, ρ', S, t, hk, q⟩
    · rw [if_neg hl] at hk; cases hk
  | _ => cases hk
end

/-! ### what is walked -/
/-- J yields the data ds, as long as what was seen is seen (Hid), and one's own lists stand (Hid0) -/
structure Wk (K : PySem.W.Frag) (w : Bool) (g0 : Gh) (H0 : Hp) (J : It) (ds : List D) : Prop where
  goes : ∀ i H (g : Gh), i < ds.length → Same (hide H0 (Hid g0)) (hide H (Hid g)) → (w = true → Same (hide H0 (Hid0 g0.Z g0.A)) (hide H (Hid0 g.Z g.A))) → J.go i H
  stops : ∀ H (g : Gh), Same (hide H0 (Hid g0)) (hide H (Hid g)) → (w = true → Same (hide H0 (Hid0 g0.Z g0.A)) (hide H (Hid0 g.Z g.A))) → J.stop ds.length H
  yields : ∀ i x H H' (g : Gh) σ d, ds[i]? = some d → Ds K g H σ → Pre g0.A g.A → Same (hide H0 (Hid g0)) (hide H (Hid g)) → (w = true → Same (hide H0 (Hid0 g0.Z g0.A)) (hide H (Hid0 g.Z g.A))) → J.yld i H x H' →
    Same H H' ∧ Dn K g.A (hide H' (Hid g)) x d
def tI (K : PySem.W.Frag) (w : Bool) (f : LF) : TI := fun σ H R => ∃ (g : Gh) (ds : List D) (C' : Mem), Ds K g H σ ∧ f g.ρ g.C = some (ds, C') ∧
  ∀ J H' A', Grow g.A A' H H' → Ds K { g with A := A', C := C' } H' σ → Wk K w { g with A := A', C := C' } H' J ds → R J H'
theorem Wk.weak {K : PySem.W.Frag} {g0 : Gh} {H0 : Hp} {J : It} {ds : List D} (W : Wk K false g0 H0 J ds) : Wk K true g0 H0 J ds :=
  ⟨fun i H g h1 h2 _ => W.goes i H g h1 h2 (fun z => nomatch z), fun H g h2 _ => W.stops H g h2 (fun z => nomatch z), fun i x H H' g σ d h1 h2 h3 h4 _ h6 => W.yields i x H H' g σ d h1 h2 h3 h4 (fun z => nomatch z) h6⟩
section
variable {X : Cx} {tg e a b : Expr} {f h : EF} {p pos : Pos}
theorem i_weak {f : LF} (he : PI X tg e (tI X.K false f)) : PI X tg e (tI X.K true f) := PI.cq he fun σ H R ⟨g, ds, C', S, hf, q⟩ => ⟨g, ds, C', S, hf, fun J H' A' gr S' W => q J H' A' gr S' W.weak⟩
/-- a list, a tuple -/
theorem i_list (he : PE X e (tV X.K f)) : PI X tg e (tI X.K false (asL f)) := PI.cq (pi_list he) fun σ H R ⟨g, d', C', S, hf, q⟩ => by
  unfold asL at hf
  cases r : f g.ρ g.C with
  | none => rw [r] at hf; cases hf
  | some pr =>
    obtain ⟨d, C1⟩ := pr
    rw [r] at hf
    cases d with
    | lst ds =>
      cases hf
      refine ⟨g, _, _, S, r, fun v H' A' gr S' dn => ?_⟩
      cases dn with
      | @lst l xs _ s t =>
        have hl := t.length
        refine ⟨l, rfl, ⟨xs, .inl (.inl (hide_same _ _ s))⟩, q _ H' A' gr S' ⟨fun i H2 g2 hi sn _ => ?_, fun H2 g2 sn _ => ?_, fun i x H2 H3 g2 σ2 d2 hd S2 pr sn _ y => ?_⟩⟩
        · exact ⟨xs, xs[i]'(by omega), .inl (.inl (hide_same _ _ (sn _ _ s))), by simp [show i < xs.length by omega]⟩
        · exact ⟨xs, .inl (.inl (hide_same _ _ (sn _ _ s))), by omega⟩
        · obtain ⟨rfl, y⟩ := y
          have y := y xs (.inl (.inl (hide_same _ _ (sn _ _ s))))
          obtain ⟨u, h1, h2⟩ := t.get hd
          rw [h1] at y
          cases y
          exact ⟨Same.refl _, h2.mono pr sn⟩
    | _ => cases hf
theorem i_own {f : LF} (he : PE X e (tL X.K f)) : PI X tg e (tI X.K true f) := PI.cq (pi_list he) fun σ H R ⟨g, ds, C', S, hf, q⟩ =>
  ⟨g, ds, C', S, hf, fun l xs H' A' gr S' s t => by
    have hl := t.length
    refine ⟨l, rfl, ⟨xs, .inl (.inl (hide_same _ _ s))⟩, q _ H' A' gr S' ⟨fun i H2 g2 hi _ sn => ?_, fun H2 g2 _ sn => ?_, fun i x H2 H3 g2 σ2 d2 hd S2 pr sn1 sn y => ?_⟩⟩
    · exact ⟨xs, xs[i]'(by omega), .inl (.inl (hide_same _ _ (sn rfl _ _ s))), by simp [show i < xs.length by omega]⟩
    · exact ⟨xs, .inl (.inl (hide_same _ _ (sn rfl _ _ s))), by omega⟩
    · obtain ⟨rfl, y⟩ := y
      have y := y xs (.inl (.inl (hide_same _ _ (sn rfl _ _ s))))
      obtain ⟨u, h1, h2⟩ := t.get hd
      rw [h1] at y
      cases y
      exact ⟨Same.refl _, h2.mono pr sn1⟩⟩
theorem i_tup (he : PE X e (tV X.K f)) : PI X tg e (tI X.K false (asT f)) := PI.cq (pi_tup he) fun σ H R ⟨g, d', C', S, hf, q⟩ => by
  unfold asT at hf
  cases r : f g.ρ g.C with
  | none => rw [r] at hf; cases hf
  | some pr =>
    obtain ⟨d, C1⟩ := pr
    rw [r] at hf
    cases d with
    | tup ds =>
      cases hf
      refine ⟨g, _, _, S, r, fun v H' A' gr S' dn => ?_⟩
      cases dn with
      | @tup l xs _ s t =>
        have hl := t.length
        have up : ∀ {H2 : Hp} {g2 : Gh}, Same (hide H' (Hid { g with A := A', C := C' })) (hide H2 (Hid g2)) → SqT X.K H2 l xs := fun sn => sqT_mono hide_same (sqT_mono sn s)
        refine ⟨l, rfl, ⟨xs, sqT_mono hide_same s⟩, q _ H' A' gr S' ⟨fun i H2 g2 hi sn _ => ?_, fun H2 g2 sn _ => ?_, fun i x H2 H3 g2 σ2 d2 hd S2 pr sn _ y => ?_⟩⟩
        · exact ⟨xs, xs[i]'(by omega), up sn, by simp [show i < xs.length by omega]⟩
        · exact ⟨xs, up sn, by omega⟩
        · obtain ⟨rfl, y⟩ := y
          have y := y xs (up sn)
          obtain ⟨u, h1, h2⟩ := t.get hd
          rw [h1] at y
          cases y
          exact ⟨Same.refl _, h2.mono pr sn⟩
    | _ => cases hf
/-- ranges -/
def rangeD (lo : Int) (n : Nat) : List D := (List.range n).map fun (i : Nat) => D.int (lo + (i : Int))
theorem wk_range {K : PySem.W.Frag} {w : Bool} {g0 : Gh} {H0 : Hp} {lo : Int} {n : Nat} : Wk K w g0 H0 (Itr lo n) (rangeD lo n) := by
  have hl : (rangeD lo n).length = n := by simp [rangeD]
  refine ⟨fun i H g hi _ _ => ?_, fun H g _ _ => ?_, fun i x H H' g σ d hd S pr _ _ y => ?_⟩
  · show i < n
    omega
  · show n ≤ (rangeD lo n).length
    omega
  · obtain ⟨rfl, rfl⟩ := y
    unfold rangeD at hd
    rw [List.getElem?_map] at hd
    cases q : (List.range n)[i]? with
    | none => rw [q] at hd; cases hd
    | some j =>
      rw [q] at hd
      obtain ⟨h1, h2⟩ := List.getElem?_eq_some_iff.mp q
      rw [List.getElem_range] at h2
      subst h2
      cases hd
      exact ⟨Same.refl _, .int _⟩
def lRng1 (f : EF) : LF := fun ρ C => match f ρ C with
  | some (.int j, C1) => if j < 2 ^ 62 ∧ -(2 ^ 62) ≤ j then some (rangeD 0 j.toNat, C1) else none
  | _ => none
theorem i_range1 (hg : Gl X "range") (hm : X.mg "range" = none) (ha : PE X a (tV X.K f)) (hs : starEach [a] X.env = [(false, eval a X.env)] := by rfl) : PI X tg (.Call (.Name "range" p) [a] [] pos) (tI X.K false (lRng1 f)) :=
  PI.cq (pi_range1 hg hm (pa_cons ha pa_nil hs) hs) fun σ H R ⟨g, ds, C', S, hf, q⟩ => by
    unfold lRng1 at hf
    cases r : f g.ρ g.C with
    | none => rw [r] at hf; cases hf
    | some pr =>
      obtain ⟨d, C1⟩ := pr
      rw [r] at hf
      cases d with
      | int j =>
        dsimp only at hf
        by_cases hj : j < 2 ^ 62 ∧ -(2 ^ 62) ≤ j
        · rw [if_pos hj] at hf
          cases hf
          exact ⟨g, _, _, S, r, fun v H' A' gr S' dn => by cases dn; exact ⟨j, rfl, hj.2, hj.1, q _ H' A' gr S' wk_range⟩⟩
        · rw [if_neg hj] at hf; cases hf
      | _ => cases hf
def lRng2 (f h : EF) : LF := fun ρ C => match f ρ C with
  | some (.int i, C1) => match h ρ C1 with
    | some (.int j, C2) => if i < 2 ^ 62 ∧ -(2 ^ 62) ≤ i ∧ j < 2 ^ 62 ∧ -(2 ^ 62) ≤ j then some (rangeD i (j - i).toNat, C2) else none
    | _ => none
  | _ => none
theorem i_range2 (hg : Gl X "range") (hm : X.mg "range" = none) (ha : PE X a (tV X.K f)) (hb : PE X b (tV X.K h)) (hs : starEach [a, b] X.env = [(false, eval a X.env), (false, eval b X.env)] := by rfl) (hs2 : starEach [b] X.env = [(false, eval b X.env)] := by rfl) (hs1 : starEach [a, b] X.env = (false, eval a X.env) :: starEach [b] X.env := by rfl) :
    PI X tg (.Call (.Name "range" p) [a, b] [] pos) (tI X.K false (lRng2 f h)) :=
  PI.cq (pi_range2 hg hm (pa_cons ha (pa_cons hb pa_nil hs2) hs1) hs hs2) fun σ H R ⟨g, ds, C', S, hf, q⟩ => by
    unfold lRng2 at hf
    cases r : f g.ρ g.C with
    | none => rw [r] at hf; cases hf
    | some pr =>
      obtain ⟨d, C1⟩ := pr
      rw [r] at hf
      cases d with
      | int i =>
        dsimp only at hf
        cases r2 : h g.ρ C1 with
        | none => rw [r2] at hf; cases hf
        | some pr2 =>
          obtain ⟨d2, C2⟩ := pr2
          rw [r2] at hf
          cases d2 with
          | int j =>
            dsimp only at hf
            by_cases hj : i < 2 ^ 62 ∧ -(2 ^ 62) ≤ i ∧ j < 2 ^ 62 ∧ -(2 ^ 62) ≤ j
            · rw [if_pos hj] at hf
              cases hf
              exact ⟨g, _, _, S, r, fun v H' A' gr S' dn => ⟨_, _, _, S', r2, fun v2 H2 A2 gr2 S2 dn2 => by
                cases dn
                cases dn2
                exact ⟨i, j, rfl, ⟨hj.2.1, hj.1, hj.2.2.2, hj.2.2.1⟩, q _ H2 A2 (gr.trans gr2) S2 wk_range⟩⟩⟩
            · rw [if_neg hj] at hf; cases hf
          | _ => cases hf
      | _ => cases hf
/-- a new pair -/
theorem wk_pair {K : PySem.W.Frag} {g : Gh} {H : Hp} {σ : L2.St} {x y : V} {dx dy : D} {T : Addr} (S : Ds K g H σ) (hT : H T = none) (hx : Dn K g.A (hide H (Hid g)) x dx) (hy : Dn K g.A (hide H (Hid g)) y dy) :
    Same H (upd H T (.tup [x, y])) ∧ Dn K g.A (hide (upd H T (.tup [x, y])) (Hid g)) (.ref T) (.tup [dx, dy]) := by
  obtain ⟨n1, n2, n3⟩ := new_tup (xs := [x, y]) (ds := [dx, dy]) S hT (.cons hx (.cons hy .nil))
  exact ⟨S.new hT, n2⟩
def enumD : Nat → List D → List D
  | _, [] => []
  | i, d :: r => .tup [.int i, d] :: enumD (i + 1) r
theorem enumD_get : ∀ (ds : List D) (k i : Nat) (z : D), (enumD k ds)[i]? = some z → ∃ d, ds[i]? = some d ∧ z = .tup [.int ((k + i : Nat) : Int), d]
  | [], _, _, _, h => by simp [enumD] at h
  | d :: r, k, 0, z, h => by
    have e : D.tup [.int k, d] = z := by simpa [enumD] using h
    exact ⟨d, rfl, e.symm⟩
  | d :: r, k, i + 1, z, h => by
    obtain ⟨d', h1, h2⟩ := enumD_get r (k + 1) i z (by simpa [enumD] using h)
    exact ⟨d', by simpa using h1, by rw [h2, show k + 1 + i = k + (i + 1) by omega]⟩
theorem enumD_length : ∀ (ds : List D) (k : Nat), (enumD k ds).length = ds.length
  | [], _ => rfl
  | _ :: r, k => by simp [enumD, enumD_length r]
def lEnum (f : LF) : LF := fun ρ C => match f ρ C with
  | some (ds, C1) => some (enumD 0 ds, C1)
  | none => none
theorem wk_enum {K : PySem.W.Frag} {w : Bool} {g0 : Gh} {H0 : Hp} {l : Addr} {xs : List V} {ds : List D} (t : DnAll K g0.A (hide H0 (Hid g0)) xs ds)
    (up : ∀ H (g : Gh), Same (hide H0 (Hid g0)) (hide H (Hid g)) → (w = true → Same (hide H0 (Hid0 g0.Z g0.A)) (hide H (Hid0 g.Z g.A))) → SqL K H l xs) : Wk K w g0 H0 (Ite K l) (enumD 0 ds) := by
  have hl := t.length
  refine ⟨fun i H g hi s1 s2 => ?_, fun H g s1 s2 => ?_, fun i x H H' g σ d hd S pr s1 s2 y => ?_⟩
  · rw [enumD_length] at hi
    exact ⟨xs, xs[i]'(by omega), up H g s1 s2, by simp [show i < xs.length by omega]⟩
  · exact ⟨xs, up H g s1 s2, by rw [enumD_length]; omega⟩
  · obtain ⟨T, z, rfl, hT, rfl, y⟩ := y
    obtain ⟨d', h1, rfl⟩ := enumD_get ds 0 i d hd
    obtain ⟨u, h2, h3⟩ := t.get h1
    have y := y xs (up H g s1 s2)
    rw [h2] at y
    cases y
    rw [Nat.zero_add]
    exact wk_pair S hT (.int _) (h3.mono pr s1)
theorem i_enum {elts : List Expr} {kk : Nat} {tpos : Pos} {f : LF} (hg : Gl X "enumerate") (hm : X.mg "enumerate" = none) (ha : PE X a (tL X.K f)) (hs : starEach [a] X.env = [(false, eval a X.env)] := by rfl) :
    PI X (.Tuple elts kk tpos) (.Call (.Name "enumerate" p) [a] [] pos) (tI X.K true (lEnum f)) := PI.cq (pi_enum hg hm (pa_cons ha pa_nil hs) hs) fun σ H R ⟨g, ds', C', S, hf, q⟩ => by
  unfold lEnum at hf
  cases r : f g.ρ g.C with
  | none => rw [r] at hf; cases hf
  | some pr =>
    obtain ⟨ds, C1⟩ := pr
    rw [r] at hf
    cases hf
    exact ⟨g, _, _, S, r, fun l xs H' A' gr S' s t => ⟨l, xs, rfl, .inl (.inl (hide_same _ _ s)), q _ H' A' gr S' (wk_enum t fun H2 g2 _ sn => .inl (.inl (hide_same _ _ (sn rfl _ _ s))))⟩⟩
theorem i_enumV {elts : List Expr} {kk : Nat} {tpos : Pos} (hg : Gl X "enumerate") (hm : X.mg "enumerate" = none) (ha : PE X a (tV X.K f)) (hs : starEach [a] X.env = [(false, eval a X.env)] := by rfl) :
    PI X (.Tuple elts kk tpos) (.Call (.Name "enumerate" p) [a] [] pos) (tI X.K false (lEnum (asL f))) := PI.cq (pi_enum hg hm (pa_cons ha pa_nil hs) hs) fun σ H R ⟨g, ds', C', S, hf, q⟩ => by
  unfold lEnum asL at hf
  cases r : f g.ρ g.C with
  | none => rw [r] at hf; cases hf
  | some pr =>
    obtain ⟨d, C1⟩ := pr
    rw [r] at hf
    cases d with
    | lst ds =>
      cases hf
      refine ⟨g, _, _, S, r, fun v H' A' gr S' dn => ?_⟩
      cases dn with
      | @lst l xs _ s t => exact ⟨l, xs, rfl, .inl (.inl (hide_same _ _ s)), q _ H' A' gr S' (wk_enum t fun H2 g2 sn _ => .inl (.inl (hide_same _ _ (sn _ _ s))))⟩
    | _ => cases hf
def zipD : List D → List D → List D
  | x :: xs, y :: ys => .tup [x, y] :: zipD xs ys
  | _, _ => []
theorem zipD_length : ∀ xs ys : List D, (zipD xs ys).length = min xs.length ys.length
  | [], _ => by simp [zipD]
  | _ :: _, [] => by simp [zipD]
  | _ :: xs, _ :: ys => by simp only [zipD, List.length_cons, zipD_length xs ys]; omega
theorem zipD_get : ∀ (xs ys : List D) (i : Nat) (z : D), (zipD xs ys)[i]? = some z → ∃ x y, xs[i]? = some x ∧ ys[i]? = some y ∧ z = .tup [x, y]
  | [], _, _, _, h => by simp [zipD] at h
  | _ :: _, [], _, _, h => by simp [zipD] at h
  | x :: xs, y :: ys, 0, z, h => by
    have e : D.tup [x, y] = z := by simpa [zipD] using h
    exact ⟨x, y, rfl, rfl, e.symm⟩
  | x :: xs, y :: ys, i + 1, z, h => by
    obtain ⟨x', y', h1, h2, h3⟩ := zipD_get xs ys i z (by simpa [zipD] using h)
    exact ⟨x', y', by simpa using h1, by simpa using h2, h3⟩
def lZip (f h : EF) : LF := fun ρ C => match f ρ C with
  | some (.lst xs, C1) => match h ρ C1 with
    | some (.lst ys, C2) => some (zipD xs ys, C2)
    | _ => none
  | _ => none
theorem lZip_some {f h : EF} {ρ : Rho} {C C2 : Mem} {r : List D} (e : lZip f h ρ C = some (r, C2)) : ∃ xs ys C1, f ρ C = some (.lst xs, C1) ∧ h ρ C1 = some (.lst ys, C2) ∧ r = zipD xs ys := by
  unfold lZip at e
  cases q : f ρ C with
  | none => rw [q] at e; cases e -- ht
  | some pr =>
    obtain ⟨d, C1⟩ := pr
    rw [q] at e
    cases d with
    | lst xs =>
      dsimp only at e
      cases q2 : h ρ C1 with
      | none => rw [q2] at e; cases e
      | some pr2 =>
        obtain ⟨d2, C3⟩ := pr2
        rw [q2] at e
        cases d2 with
        | lst ys => cases e; exact ⟨xs, ys, C1, rfl, q2, rfl⟩
        | _ => cases e
    | _ => cases e
theorem i_zip {elts : List Expr} {kk : Nat} {tpos : Pos} (hg : Gl X "zip") (hm : X.mg "zip" = none) (ha : PE X a (tV X.K f)) (hb : PE X b (tV X.K h)) (hs : starEach [a, b] X.env = (false, eval a X.env) :: starEach [b] X.env := by rfl) (hpl : (backTo pos (starEach [b] X.env)).any (·.1) = false := by rfl) (hs2 : starEach [b] X.env = (false, eval b X.env) :: starEach [] X.env := by rfl) :
    PI X (.Tuple elts kk tpos) (.Call (.Name "zip" p) [a, b] [] pos) (tI X.K false (lZip f h)) := PI.cq (pi_zip hg hm (pa_cons ha (pa_cons hb pa_nil hs2) hs) hs hpl) fun σ H R ⟨g, ds', C', S, hf, q⟩ => by
  obtain ⟨xs, ys, C1, q1, q2, rfl⟩ := lZip_some hf
  refine row2 S q1 q2 fun v w H' A' gr S' dv dw => ?_
  cases dv with
  | @lst l vs _ s t =>
    cases dw with
    | @lst l2 ws _ s2 t2 =>
      have h1 := t.length
      have h2 := t2.length
      have up : ∀ {H2 : Hp} {g2 : Gh}, Same (hide H' (Hid { g with A := A', C := C' })) (hide H2 (Hid g2)) → SqL X.K H2 l vs ∧ SqL X.K H2 l2 ws := fun sn => ⟨.inl (.inl (hide_same _ _ (sn _ _ s))), .inl (.inl (hide_same _ _ (sn _ _ s2)))⟩
      refine ⟨l, l2, vs, ws, rfl, .inl (.inl (hide_same _ _ s)), .inl (.inl (hide_same _ _ s2)), q _ H' A' gr S' ⟨fun i H2 g2 hi sn _ => ?_, fun H2 g2 sn _ => ?_, fun i x H2 H3 g2 σ2 d2 hd S2 pr sn _ y => ?_⟩⟩
      · rw [zipD_length] at hi
        exact ⟨vs, ws, vs[i]'(by omega), ws[i]'(by omega), (up sn).1, (up sn).2, by simp [show i < vs.length by omega], by simp [show i < ws.length by omega]⟩
      · exact ⟨vs, ws, (up sn).1, (up sn).2, by rw [zipD_length]; omega⟩
      · obtain ⟨T, x1, x2, rfl, hT, rfl, y1, y2⟩ := y
        obtain ⟨e1, e2, h3, h4, rfl⟩ := zipD_get xs ys i d2 hd
        obtain ⟨u1, h5, h6⟩ := t.get h3
        obtain ⟨u2, h7, h8⟩ := t2.get h4
        have y1 := y1 vs (up sn).1
        have y2 := y2 ws (up sn).2
        rw [h5] at y1
        rw [h7] at y2
        cases y1
        cases y2
        exact wk_pair S2 hT (h6.mono pr sn) (h8.mono pr sn)
end
end Ht


set_option maxRecDepth 100000
set_option maxHeartbeats 1000000 -- ht
/-! The value layer: list comprehensions, statements, defs. -/
namespace Ht
open PySem PySem.Spec PyProof.Rows L2 -- ht

/-! ### from reading to reading -/
section
variable {K : PySem.W.Frag} {σ : L2.St} {H : Hp} {Q : VK}
theorem tF_of_tV {f : LF} (h : tV K (asD f) σ H Q) : tF K f σ H Q := by
  obtain ⟨g, d', C', S, hf, q⟩ := h
  unfold asD at hf
  cases r : f g.ρ g.C with
  | none => rw [r] at hf; cases hf
  | some p =>
    obtain ⟨ds, C1⟩ := p
    rw [r] at hf
    cases hf
    refine ⟨g, _, _, S, r, fun p xs H' A' hp hA gr S' e t => ?_⟩
    have S2 : Ds K { g with A := A', C := C' } H' σ := S'.less (g := { g with A := A', C := C' }) fun a z => .inl z
    refine q _ H' A' gr S2 (.lst (hide_some.mpr ⟨fun z => ?_, e⟩) (t.mono (Pre.refl _) (hid_less (g := { g with A := A', C := C' }) fun a z => .inl z)))
    rcases z with (z | z) | ⟨i, es, z, e2⟩
    · exact S.zl p z hp
    · exact hA z
    · obtain ⟨_, xs', q4, _⟩ := S.ow i es z
      have e2 : g.o i = p := e2
      rw [e2, hp] at q4
      cases q4
end

/-! ### wiped slots -/
theorem wipe_at (σ : L2.St) (i : Nat) : ∀ vs : List Nat, (wipe σ vs)[i]? = if i ∈ vs ∧ i < σ.length then some none else σ[i]?
  | [] => by simp [wipe]
  | v :: vs => by
    unfold wipe
    by_cases e : v = i
    · subst e
      by_cases hl : v < σ.length
      · rw [List.getElem?_set_self (by rw [wipe_length]; exact hl), if_pos ⟨List.mem_cons_self, hl⟩]
      · rw [List.getElem?_eq_none (by rw [List.length_set, wipe_length]; omega), if_neg (fun z => hl z.2), List.getElem?_eq_none (by omega)]
    · rw [List.getElem?_set_ne e, wipe_at σ i vs]
      by_cases c : i ∈ vs ∧ i < σ.length
      · rw [if_pos c, if_pos ⟨List.mem_cons_of_mem _ c.1, c.2⟩]
      · rw [if_neg c, if_neg (fun z => c ⟨(List.mem_cons.mp z.1).resolve_left (fun q => e q.symm), z.2⟩)]
theorem wipe_twice (σ : L2.St) (vs : List Nat) : wipe (wipe σ vs) vs = wipe σ vs := by
  refine List.ext_getElem? fun i => ?_
  rw [wipe_at, wipe_length, wipe_at]
  by_cases c : i ∈ vs ∧ i < σ.length
  · rw [if_pos c, if_pos c]
  · rw [if_neg c]
def wipeR (ρ : Rho) : List Nat → Rho
  | [] => ρ
  | v :: vs => (wipeR ρ vs).set v .no
theorem wipeR_length (ρ : Rho) : ∀ vs : List Nat, (wipeR ρ vs).length = ρ.length
  | [] => rfl
  | v :: vs => by unfold wipeR; rw [List.length_set, wipeR_length ρ vs]
theorem wipeR_at (ρ : Rho) (i : Nat) : ∀ vs : List Nat, (wipeR ρ vs)[i]? = if i ∈ vs ∧ i < ρ.length then some .no else ρ[i]?
  | [] => by simp [wipeR]
  | v :: vs => by
    unfold wipeR
    by_cases e : v = i
    · subst e
      by_cases hl : v < ρ.length
      · rw [List.getElem?_set_self (by rw [wipeR_length]; exact hl), if_pos ⟨List.mem_cons_self, hl⟩]
      · rw [List.getElem?_eq_none (by rw [List.length_set, wipeR_length]; omega), if_neg (fun z => hl z.2), List.getElem?_eq_none (by omega)]
    · rw [List.getElem?_set_ne e, wipeR_at ρ i vs]
      by_cases c : i ∈ vs ∧ i < ρ.length
      · rw [if_pos c, if_pos ⟨List.mem_cons_of_mem _ c.1, c.2⟩]
      · rw [if_neg c, if_neg (fun z => c ⟨(List.mem_cons.mp z.1).resolve_left (fun q => e q.symm), z.2⟩)]
def noOw (ρ : Rho) (vs : List Nat) : Bool := vs.all fun i => match ρ[i]? with
  | some (.ow _) => false
  | _ => true
theorem noOw_at {ρ : Rho} {vs : List Nat} (h : noOw ρ vs = true) {i : Nat} {ds : List D} (hi : i ∈ vs) : ρ[i]? ≠ some (.ow ds) := fun e => by
  have q := List.all_eq_true.mp h i hi
  rw [e] at q
  cases q
theorem own_wipe {ρ : Rho} {vs : List Nat} {o : Nat → Addr} (h : noOw ρ vs = true) {a : Addr} : Own (wipeR ρ vs) o a ↔ Own ρ o a := by
  constructor
  · rintro ⟨i, ds, h1, h2⟩
    rw [wipeR_at] at h1
    by_cases c : i ∈ vs ∧ i < ρ.length
    · rw [if_pos c] at h1; cases h1
    · rw [if_neg c] at h1; exact ⟨i, ds, h1, h2⟩
  · rintro ⟨i, ds, h1, h2⟩
    refine ⟨i, ds, ?_, h2⟩
    rw [wipeR_at, if_neg (fun c => noOw_at h c.1 h1)]
    exact h1
theorem hid_wipe {g : Gh} {vs : List Nat} {H : Hp} (h : noOw g.ρ vs = true) : hide H (Hid { g with ρ := wipeR g.ρ vs }) = hide H (Hid g) := hide_congr fun a => by
  constructor
  · rintro (z | z)
    · exact .inl z
    · exact .inr ((own_wipe h).mp z)
  · rintro (z | z)
    · exact .inl z
    · exact .inr ((own_wipe h).mpr z)
theorem Ds.wiped {K : PySem.W.Frag} {g : Gh} {H : Hp} {σ : L2.St} {vs : List Nat} (S : Ds K g H σ) (h : noOw g.ρ vs = true) : Ds K { g with ρ := wipeR g.ρ vs } H (wipe σ vs) := by
  refine S.slots (by rw [wipe_length, wipeR_length]; exact S.len) (fun i ds e => ?_) (fun i d e => ?_)
  · rw [wipeR_at] at e
    by_cases c : i ∈ vs ∧ i < g.ρ.length
    · rw [if_pos c] at e; cases e
    · rw [if_neg c] at e
      exact ⟨e, by rw [wipe_at, if_neg (by rw [S.len]; exact c)]⟩
  · rw [wipeR_at] at e
    by_cases c : i ∈ vs ∧ i < g.ρ.length
    · rw [if_pos c] at e; cases e
    · rw [if_neg c] at e
      obtain ⟨v, h1, h2⟩ := S.im i d e
      rw [hid_wipe h]
      exact ⟨v, by rw [wipe_at, if_neg (by rw [S.len]; exact c)]; exact h1, h2⟩
/-- a hidden object that is none of the told ones is written -/
theorem Ds.under {K : PySem.W.Frag} {g : Gh} {H : Hp} {σ : L2.St} {p : Addr} {o : HO} (S : Ds K g H σ) (hz : g.Z p) (hA : p ∉ g.A) (h0 : g.H0 p = none) : Ds K g (upd H p o) σ ∧ Same (hide H (Hid g)) (hide (upd H p o) (Hid g)) := by
  have ne : ∀ {a : Addr} {x : HO}, ¬ Hid g a → H a = some x → a ≠ p := fun hn _ e => hn (.inl (.inl (by rw [e]; exact hz)))
  have sn : Same (hide H (Hid g)) (hide (upd H p o) (Hid g)) := hide_sub fun a x hn h => ⟨hn, by rw [upd_ne (ne hn h)]; exact h⟩
  have neA : ∀ a ∈ g.A, a ≠ p := fun a ha e => hA (by rw [← e]; exact ha)
  have live : ∀ a, H a ≠ none → upd H p o a ≠ none := fun a h => by
    by_cases e : a = p
    · rw [e, upd_same]; exact fun z => by cases z
    · rw [upd_ne e]; exact h
  refine ⟨⟨fun a x h hA' => ?_, fun a z => live a (S.zl a z), fun a ha => live a (S.al a ha), ⟨S.mem.nd, S.mem.len, fun i a mo h1 h2 => ?_⟩, S.oinj, S.ofr, S.len, fun i d h => ?_, fun i ds h => ?_⟩, sn⟩
  · rw [upd_ne (fun e => by rw [e, h0] at h; cases h)]
    exact S.base a x h hA'
  · have q := S.mem.at_ i a mo h1 h2
    have hp := neA a (List.mem_of_getElem? h1)
    cases mo with
    | lst ds =>
      obtain ⟨xs, h3, h4⟩ := q
      exact ⟨xs, by rw [upd_ne hp]; exact h3, h4.mono (Pre.refl _) sn⟩
  · obtain ⟨v, h1, h2⟩ := S.im i d h
    exact ⟨v, h1, h2.mono (Pre.refl _) sn⟩
  · obtain ⟨h1, xs, h2, h3⟩ := S.ow i ds h
    have hp : g.o i ≠ p := fun e => (S.ofr i ds h).2.1 (by rw [e]; exact hz)
    exact ⟨h1, xs, by rw [upd_ne hp]; exact h2, h3.mono (Pre.refl _) sn⟩

/-! ### list comprehensions -/
def lcStep (vs : List Nat) (k : GF) (tf : BF) (ef : EF) (ρ : Rho) (d : D) (C : Mem) : Option (List D × Mem) := match k d (wipeR ρ vs) with
  | some ρ' => match tf ρ' C with
    | some (true, C1) => match ef ρ' C1 with
      | some (e, C2) => some ([e], C2)
      | none => none
    | some (false, C1) => some ([], C1)
    | none => none
  | none => none
def lcGo (st : D → Mem → Option (List D × Mem)) : List D → Mem → Option (List D × Mem)
  | [], C => some ([], C)
  | d :: ds, C => match st d C with
    | some (o, C1) => match lcGo st ds C1 with
      | some (r, C2) => some (o ++ r, C2)
      | none => none
    | none => none
def lLc (vs : List Nat) (fi : LF) (k : GF) (tf : BF) (ef : EF) : LF := fun ρ C => match fi ρ C with
  | some (ds, C1) => if noOw ρ vs = true ∧ ds.length ≤ 100000 then lcGo (lcStep vs k tf ef ρ) ds C1 else none
  | none => none
theorem lcGo_cons {st : D → Mem → Option (List D × Mem)} {d : D} {ds : List D} {C C2 : Mem} {r : List D} (h : lcGo st (d :: ds) C = some (r, C2)) : ∃ o C1 r', st d C = some (o, C1) ∧ lcGo st ds C1 = some (r', C2) ∧ r = o ++ r' := by
  unfold lcGo at h
  cases q : st d C with
  | none => rw [q] at h; cases h
  | some p =>
    obtain ⟨o, C1⟩ := p
    rw [q] at h
    dsimp only at h
    cases q2 : lcGo st ds C1 with
    | none => rw [q2] at h; cases h
    | some p2 =>
      obtain ⟨r', C3⟩ := p2
      rw [q2] at h
      cases h
      exact ⟨o, C1, r', rfl, q2, rfl⟩
def bTrue : BF := fun _ C => some (true, C)
theorem tt_yes {K : PySem.W.Frag} {σ : L2.St} {H : Hp} {Q : Bool → Hp → Prop} (h : tC K bTrue σ H Q) : tYes σ H Q := by
  obtain ⟨g, b, C', S, hf, q⟩ := h
  cases hf
  exact q H g.A (Grow.refl S.al) S
theorem PTs.cq {X : Cx} {e : List Expr} {t t' : TT} (h : PTs X e t) (c : ∀ σ H Q, t' σ H Q → t σ H Q) : PTs X e t' := ⟨fun pins s σ H Q I q => h.run pins s σ H Q I (c σ H Q q)⟩
theorem ts_nil {X : Cx} : PTs X [] (tC X.K bTrue) := PTs.cq pts_nil fun _ _ _ => tt_yes
theorem ts_one {X : Cx} {c : Expr} {f : BF} (h : PT X c (tC X.K f)) : PTs X [c] (tC X.K f) := pts_one h
theorem notOw_of {K : PySem.W.Frag} {g : Gh} {H : Hp} {σ : L2.St} {p : Addr} {ρ : Rho} (S : Ds K g H σ) (h : Own ρ g.o p) (hρ : g.ρ = ρ) : H p ≠ none := by
  subst hρ
  obtain ⟨i, ds, h1, h2⟩ := h
  obtain ⟨_, xs, h3, _⟩ := S.ow i ds h1
  rw [← h2, h3]
  exact fun z => by cases z

theorem setIm_ow {ρ ρ' : Rho} {i j : Nat} {d : D} {ds : List D} (hk : gSet i d ρ = some ρ') (h : ρ'[j]? = some (.ow ds)) : ρ[j]? = some (.ow ds) := by
  unfold gSet at hk
  by_cases hi : i < ρ.length
  · rw [if_pos hi] at hk
    cases hk
    rcases set_get h with ⟨_, e⟩ | ⟨_, e⟩
    · cases e
    · exact e
  · rw [if_neg hi] at hk; cases hk
theorem setIm_own {ρ ρ' : Rho} {i : Nat} {d : D} (hk : gSet i d ρ = some ρ') (hn : ∀ j ∈ [i], ∀ ds, ρ[j]? ≠ some (.ow ds)) (o : Nat → Addr) (a : Addr) (h : Own ρ o a) : Own ρ' o a := by
  obtain ⟨j, ds, h1, h2⟩ := h
  unfold gSet at hk
  by_cases hi : i < ρ.length
  · rw [if_pos hi] at hk
    cases hk
    have ne : i ≠ j := fun e => by subst e; exact hn i (by simp) ds h1
    exact ⟨j, ds, by rw [List.getElem?_set_ne ne]; exact h1, h2⟩
  · rw [if_neg hi] at hk; cases hk
/-- k keeps, never makes own lists -/
structure Kp (ts : List Nat) (k : GF) : Prop where
  less : ∀ d ρ ρ', k d ρ = some ρ' → ∀ (j : Nat) (es : List D), ρ'[j]? = some (.ow es) → ρ[j]? = some (.ow es)
  own : ∀ d ρ ρ', k d ρ = some ρ' → (∀ i ∈ ts, ∀ es, ρ[i]? ≠ some (.ow es)) → ∀ o a, Own ρ o a → Own ρ' o a
structure Kps (ts : List Nat) (k : List D → Rho → Option Rho) : Prop where
  less : ∀ d ρ ρ', k d ρ = some ρ' → ∀ (j : Nat) (es : List D), ρ'[j]? = some (.ow es) → ρ[j]? = some (.ow es)
  own : ∀ d ρ ρ', k d ρ = some ρ' → (∀ i ∈ ts, ∀ es, ρ[i]? ≠ some (.ow es)) → ∀ o a, Own ρ o a → Own ρ' o a
theorem kp_name (i : Nat) : Kp [i] (gSet i) := ⟨fun d ρ ρ' hk j es h => setIm_ow hk h, fun d ρ ρ' hk hn o a ha => setIm_own hk hn o a ha⟩
theorem kps_nil : Kps [] gsNil := by
  constructor
  · intro d ρ ρ' hk j es h
    cases d with
    | nil => cases hk; exact h
    | cons => cases hk
  · intro d ρ ρ' hk _ o a ha
    cases d with
    | nil => cases hk; exact ha
    | cons => cases hk
theorem kps_cons {t1 t2 : List Nat} {k : GF} {r : List D → Rho → Option Rho} (h1 : Kp t1 k) (h2 : Kps t2 r) : Kps (t1 ++ t2) (gsCons k r) := by
  refine ⟨fun ds ρ ρ' hk j es h => ?_, fun ds ρ ρ' hk hn o a ha => ?_⟩
  · cases ds with
    | nil => cases hk
    | cons d ds =>
      unfold gsCons at hk
      dsimp only at hk
      cases q : k d ρ with
      | none => rw [q] at hk; cases hk
      | some ρ1 =>
        rw [q] at hk
        exact h1.less d ρ ρ1 q j es (h2.less ds ρ1 ρ' hk j es h)
  · cases ds with
    | nil => cases hk
    | cons d ds =>
      unfold gsCons at hk
      dsimp only at hk
      cases q : k d ρ with
      | none => rw [q] at hk; cases hk
      | some ρ1 =>
        rw [q] at hk
        refine h2.own ds ρ1 ρ' hk (fun i hi es z => hn i (List.mem_append_right _ hi) es (h1.less d ρ ρ1 q i es z)) o a (h1.own d ρ ρ1 q (fun i hi => hn i (List.mem_append_left _ hi)) o a ha)
theorem kp_tup {ts : List Nat} {n : Nat} {r : List D → Rho → Option Rho} (h : Kps ts r) : Kp ts (gTupD n r) := by
  refine ⟨fun d ρ ρ' hk j es e => ?_, fun d ρ ρ' hk hn o a ha => ?_⟩
  all_goals
    cases d with
    | tup ds =>
      unfold gTupD at hk
      dsimp only at hk
      by_cases hl : ds.length = n
      · rw [if_pos hl] at hk
        first | exact h.less ds ρ ρ' hk j es e | exact h.own ds ρ ρ' hk hn o a ha
      · rw [if_neg hl] at hk; cases hk
    | _ => cases hk

/-- what holds between two turns of a comprehension -/
def LcInv (K : PySem.W.Frag) (g : Gh) (σ : L2.St) (st : D → Mem → Option (List D × Mem)) (C' : Mem) (p : Addr) (A1 : List Addr) (H1 : Hp) (ds rs : List D) (i : Nat) (H2 : Hp) : Prop :=
  i ≤ ds.length ∧ ∃ (A2 : List Addr) (C2 : Mem) (acc : List V) (es r : List D), Grow A1 A2 H1 H2 ∧ p ∉ A2 ∧ Ds K { g with A := A2, C := C2, Z := fun a => g.Z a ∨ a = p } H2 σ ∧ H2 p = some (.lst acc) ∧
      DnAll K A2 (hide H2 (Hid { g with A := A2, C := C2, Z := fun a => g.Z a ∨ a = p })) acc es ∧ es.length ≤ i ∧ lcGo st (ds.drop i) C2 = some (r, C') ∧ rs = es ++ r
/-- THE COMPREHENSION, as a reading -/
theorem lc_read {K : PySem.W.Frag} {vs ts : List Nat} {fi : LF} {k : GF} {tf : BF} {ef : EF} {σ : L2.St} {H : Hp} {Q : VK} (kp : Kp ts k) (hts : ∀ i ∈ ts, i ∈ vs) (h : tF K (lLc vs fi k tf ef) σ H Q) :
    tLc (tI K true fi) (gD K ts k) (tC K tf) (tV K ef) vs σ H Q := by
  obtain ⟨g, rs, C', S, hf, q⟩ := h
  unfold lLc at hf
  cases q1 : fi g.ρ g.C with
  | none => rw [q1] at hf; cases hf
  | some pr =>
    obtain ⟨ds, C1⟩ := pr
    rw [q1] at hf
    dsimp only at hf
    by_cases hno : noOw g.ρ vs = true ∧ ds.length ≤ 100000
    case neg => rw [if_neg hno] at hf; cases hf
    rw [if_pos hno] at hf
    obtain ⟨hno, hlen⟩ := hno
    refine ⟨g, ds, C1, S, q1, fun J H1 A1 gr1 S1 W p hp => ?_⟩
    have h0p : g.H0 p = none := by
      cases e : g.H0 p with
      | none => rfl
      | some x =>
        have hA : p ∉ A1 := fun z => S1.al p z hp
        have := S1.base p x e hA
        rw [hp] at this; cases this
    have hpH : H p = none := by
      cases e : H p with
      | none => rfl
      | some x => exact absurd hp (gr1.step.live p (by rw [e]; exact fun z => by cases z))
    obtain ⟨n1, n2, n3, n4⟩ := fin_new (xs := []) (ds := []) S1 hp .nil
    refine ⟨fun i m H2 => m = ds.length - i ∧ LcInv K g σ (lcStep vs k tf ef g.ρ) C' p A1 H1 ds rs i H2,
      ⟨_, rfl, Nat.zero_le _, A1, C1, [], [], rs, n3, n4, n1, upd_same, n2, Nat.le_refl _, hf, rfl⟩, ?_⟩
    rintro i m H2 ⟨rfl, hi, A2, C2, acc, es, r, gr2, hA2, S2, hacc, dacc, hle, hgo, hrs⟩
    have seenZ : Same (hide H1 (Hid { g with A := A1, C := C1 })) (hide H2 (Hid { g with A := A2, C := C2, Z := fun a => g.Z a ∨ a = p })) := by
      obtain ⟨B, eB, hB⟩ := gr2.ae
      refine hide_sub fun a x hn h => ?_
      have nA : a ∉ A1 := fun z => hn (.inl (.inr z))
      refine ⟨fun z => ?_, gr2.keep a x nA h⟩
      rcases z with ((z | z) | z) | z
      · exact hn (.inl (.inl z))
      · rw [z, hp] at h; cases h
      · have z : a ∈ A2 := z
        rw [eB] at z
        rcases List.mem_append.mp z with z | z
        · exact nA z
        · rw [hB a z] at h; cases h
      · exact hn (.inr z)
    have seen0 : Same (hide H1 (Hid0 g.Z A1)) (hide H2 (Hid0 (fun a => g.Z a ∨ a = p) A2)) := by
      obtain ⟨B, eB, hB⟩ := gr2.ae
      refine hide_sub fun a x hn h => ?_
      have nA : a ∉ A1 := fun z => hn (.inr z)
      refine ⟨fun z => ?_, gr2.keep a x nA h⟩
      rcases z with (z | z) | z
      · exact hn (.inl z)
      · rw [z, hp] at h; cases h
      · rw [eB] at z
        rcases List.mem_append.mp z with z | z
        · exact nA z
        · rw [hB a z] at h; cases h
    by_cases hlt : i < ds.length
    case neg =>
      have e : i = ds.length := by omega
      subst e
      rw [List.drop_length] at hgo
      cases hgo
      rw [List.append_nil] at hrs
      subst hrs
      exact .inl ⟨W.stops H2 { g with A := A2, C := C', Z := fun a => g.Z a ∨ a = p } seenZ fun _ => seen0, q p acc H2 A2 hpH hA2 (gr1.trans gr2) S2 hacc dacc⟩
    rw [List.drop_eq_getElem_cons hlt] at hgo
    obtain ⟨o, C3, r', hst, hgo', hr⟩ := lcGo_cons hgo
    refine .inr ⟨W.goes i H2 { g with A := A2, C := C2, Z := fun a => g.Z a ∨ a = p } hlt seenZ fun _ => seen0, LcInv K g σ (lcStep vs k tf ef g.ρ) C' p A1 H1 ds rs (i + 1), fun H' hN => ⟨ds.length - (i + 1), by omega, rfl, hN⟩, fun x H2' hy => ?_⟩
    obtain ⟨sm, dx⟩ := W.yields i x H2 H2' { g with A := A2, C := C2, Z := fun a => g.Z a ∨ a = p } σ _ (List.getElem?_eq_getElem hlt) S2 gr2.pre seenZ (fun _ => seen0) hy
    have S2' := S2.keep sm
    have hno' : noOw g.ρ vs = true := hno
    have Sw : Ds K { g with A := A2, C := C2, Z := fun a => g.Z a ∨ a = p, ρ := wipeR g.ρ vs } H2' (wipe σ vs) := S2'.wiped (g := { g with A := A2, C := C2, Z := fun a => g.Z a ∨ a = p }) hno
    have ehid : ∀ (Hx : Hp) (Ax : List Addr) (Cx : Mem), hide Hx (Hid { g with A := Ax, C := Cx, Z := fun a => g.Z a ∨ a = p, ρ := wipeR g.ρ vs }) = hide Hx (Hid { g with A := Ax, C := Cx, Z := fun a => g.Z a ∨ a = p }) := fun Hx Ax Cx => hid_wipe (g := { g with A := Ax, C := Cx, Z := fun a => g.Z a ∨ a = p }) hno
    unfold lcStep at hst
    cases hk : k ds[i] (wipeR g.ρ vs) with
    | none => rw [hk] at hst; cases hst
    | some ρ' =>
      rw [hk] at hst
      dsimp only at hst
      refine ⟨_, ds[i], ρ', Sw, by rw [ehid]; exact dx, hk, fun σ3 S3 w3 _ => ?_⟩
      refine ⟨by rw [w3 vs hts, wipe_twice], ?_⟩
      -- one's own lists are the same
      have ownE : ∀ a, Own ρ' g.o a ↔ Own g.ρ g.o a := fun a => by
        constructor
        · rintro ⟨j, es', h1, h2⟩
          exact (own_wipe hno).mp ⟨j, es', kp.less _ _ _ hk j es' h1, h2⟩
        · intro h1
          refine kp.own _ _ _ hk (fun j hj es' z => ?_) g.o a ((own_wipe hno).mpr h1)
          have hjv := hts j hj
          rw [wipeR_at] at z
          by_cases c : j ∈ vs ∧ j < g.ρ.length
          · rw [if_pos c] at z; cases z
          · rw [if_neg c] at z
            exact noOw_at hno hjv z
      have ehid2 : ∀ (Hx : Hp) (Ax : List Addr) (Cx : Mem), hide Hx (Hid { g with A := Ax, C := Cx, Z := fun a => g.Z a ∨ a = p, ρ := ρ' }) = hide Hx (Hid { g with A := Ax, C := Cx, Z := fun a => g.Z a ∨ a = p }) := fun Hx Ax Cx => hide_congr fun a => by
        constructor
        · rintro (z | z)
          · exact .inl z
          · exact .inr ((ownE a).mp z)
        · rintro (z | z)
          · exact .inl z
          · exact .inr ((ownE a).mpr z)
      cases ht : tf ρ' C2 with
      | none => rw [ht] at hst; cases hst
      | some pt =>
        obtain ⟨b, C4⟩ := pt
        rw [ht] at hst
        refine ⟨_, b, C4, S3, ht, fun H3 A3 gr3 S4 => ?_⟩
        have gr03 : Grow A1 A3 H1 H3 := (gr2.trans (Grow.of (fun a ha => S2.al a ha) sm)).trans gr3
        have hA3 : p ∉ A3 := fun z => by
          obtain ⟨B, eB, hB⟩ := gr3.ae
          have z : p ∈ A3 := z
          rw [show A3 = A2 ++ B from eB] at z
          rcases List.mem_append.mp z with z | z
          · exact hA2 z
          · have := hB p z
            rw [sm p _ hacc] at this; cases this
        have hacc3 : H3 p = some (.lst acc) := gr3.keep p _ hA2 (sm p _ hacc)
        have T4 : Ds K { g with A := A3, C := C4, Z := fun a => g.Z a ∨ a = p } H3 σ := S2'.grow (C' := C4) gr3 (fun a ha => S4.al a ha) (by rw [← ehid2]; exact S4.mem)
        have dacc3 : DnAll K A3 (hide H3 (Hid { g with A := A3, C := C4, Z := fun a => g.Z a ∨ a = p })) acc es :=
          dacc.mono gr3.pre (((Grow.of (fun a ha => S2.al a ha) sm).trans gr3).seenG (g := { g with A := A2, C := C2, Z := fun a => g.Z a ∨ a = p }) (C' := C4))
        cases b with
        | false =>
          cases hst
          refine ⟨hlt, A3, C3, acc, es, r', gr03, hA3, T4, hacc3, dacc3, by omega, hgo', ?_⟩
          rw [hrs, hr]
          rfl
        | true =>
          dsimp only at hst
          cases he : ef ρ' C4 with
          | none => rw [he] at hst; cases hst
          | some pe =>
            obtain ⟨z, C5⟩ := pe
            rw [he] at hst
            cases hst
            refine ⟨_, z, C3, S4, he, fun y H4 A4 gr4 S5 dy => ?_⟩
            have hA4 : p ∉ A4 := fun z => by
              obtain ⟨B, eB, hB⟩ := gr4.ae
              have z : p ∈ A4 := z
              rw [show A4 = A3 ++ B from eB] at z
              rcases List.mem_append.mp z with z | z
              · exact hA3 z
              · have := hB p z
                rw [hacc3] at this; cases this
            have hacc4 : H4 p = some (.lst acc) := gr4.keep p _ hA3 hacc3
            have T5 : Ds K { g with A := A4, C := C3, Z := fun a => g.Z a ∨ a = p } H4 σ := T4.grow (C' := C3) gr4 (fun a ha => S5.al a ha) (by rw [← ehid2]; exact S5.mem)
            have dacc4 : DnAll K A4 (hide H4 (Hid { g with A := A4, C := C3, Z := fun a => g.Z a ∨ a = p })) acc es :=
              dacc3.mono gr4.pre (gr4.seenG (g := { g with A := A3, C := C4, Z := fun a => g.Z a ∨ a = p }) (C' := C3))
            have dy' : Dn K A4 (hide H4 (Hid { g with A := A4, C := C3, Z := fun a => g.Z a ∨ a = p })) y z := by
              rw [← ehid2]; exact dy
            obtain ⟨T6, sm6⟩ := T5.under (p := p) (o := .lst (acc ++ [y])) (.inr rfl) hA4 h0p
            refine ⟨acc, hacc4, line5 (by rw [dacc4.length]; omega), hlt, A4, C3, acc ++ [y], es ++ [z], r', ?_, hA4, T6, upd_same, (dacc4.append (.cons dy' .nil)).mono (Pre.refl _) sm6, by simp; omega, hgo', ?_⟩
            · have gr04 := gr03.trans gr4
              refine ⟨gr04.ae, fun a x hn hx => ?_, fun a ha => ?_⟩
              · rw [upd_ne (fun e => by rw [e, hp] at hx; cases hx)]
                exact gr04.keep a x hn hx
              · rw [upd_ne (fun e => S1.al p (by rw [← e]; exact ha) hp)]
                exact gr04.al a ha
            · rw [hrs, hr, List.append_assoc]
section
variable {X : Cx} {elt tg iter : Expr} {ifs : List Expr} {scope : Scope} {own : List (Str × Nat)} {pos : Pos} {fi : LF} {ts : List Nat} {k : GF} {tf : BF} {ef : EF}
theorem f_lc (kp : Kp ts k) (hc : X.calm = true) (hN : X.N.Nodup) (hi : PI X tg iter (tI X.K true fi)) (ok : BlkOk X.N X.env.scope scope own)
    (hg : ∀ (s : Shared) (H : Hp) (C : Addr) (cl : List (Str × Addr)) (fp : List Addr), PG (X.blk s H scope (compEnvC scope cl C X.env) fp) tg (gD X.K ts k)) (ht : ∀ (s : Shared) (H : Hp) (C : Addr) (cl : List (Str × Addr)) (fp : List Addr), PTs (X.blk s H scope (compEnvC scope cl C X.env) fp) ifs (tC X.K tf))
    (he : ∀ (s : Shared) (H : Hp) (C : Addr) (cl : List (Str × Addr)) (fp : List Addr), PE (X.blk s H scope (compEnvC scope cl C X.env) fp) elt (tV X.K ef)) (hts : ∀ i ∈ ts, i ∈ own.map (·.2) := by decide) (hs : ∀ x, foldedSetIterable iter X.env x = pure x := by intro _; rfl) :
    PE X (.ListComp elt [⟨tg, iter, ifs, 0⟩] scope pos) (tF X.K (lLc (own.map (·.2)) fi k tf ef)) := PE.cq (pe_lc hc hN hi ok hg ht he hs) fun σ H Q h => lc_read kp hts h
end
end Ht


set_option maxRecDepth 100000
set_option maxHeartbeats 1000000 -- ht
/-! The value layer: statements, defs. -/
namespace Ht
open PySem PySem.Spec PyProof.Rows L2 -- ht

inductive Out where
  | nx (ρ : Rho) | rt (d : D) | bk (ρ : Rho) | ct (ρ : Rho)
abbrev SF := Rho → Mem → Option (Out × Mem)
/-- the frame goes on -/
structure Post (K : PySem.W.Frag) (g : Gh) (H : Hp) (C' : Mem) (ρ' : Rho) (σ' : L2.St) (H' : Hp) (A' : List Addr) (o' : Nat → Addr) : Prop where
  step : Step g.A A' H H'
  ds : Ds K { g with A := A', C := C', o := o', ρ := ρ' } H' σ'
  seen : Same (hide H (Hid g)) (hide H' (Hid { g with A := A', C := C', o := o', ρ := ρ' }))
structure RPost (K : PySem.W.Frag) (g : Gh) (H : Hp) (C' : Mem) (d : D) (v : V) (H' : Hp) (A' : List Addr) : Prop where
  step : Step g.A A' H H'
  base : ∀ a x, g.H0 a = some x → a ∉ A' → H' a = some x
  al : ∀ a ∈ A', H' a ≠ none
  mem : MemOk K A' C' H' (hide H' (Hid0 g.Z A'))
  dn : Dn K A' (hide H' (Hid0 g.Z A')) v d
/-- the ends serve what comes out -/
def OutK (K : PySem.W.Frag) (g : Gh) (H : Hp) (C' : Mem) (E : Ends) : Out → Prop
  | .nx ρ' => ∀ σ' H' A' o', Post K g H C' ρ' σ' H' A' o' → E.nx σ' H'
  | .bk ρ' => ∀ σ' H' A' o', Post K g H C' ρ' σ' H' A' o' → E.bk σ' H'
  | .ct ρ' => ∀ σ' H' A' o', Post K g H C' ρ' σ' H' A' o' → E.ct σ' H'
  | .rt d => ∀ v H' A', RPost K g H C' d v H' A' → E.rt v H'
def sV (K : PySem.W.Frag) (f : SF) : TS := fun E σ H => ∃ (g : Gh) (out : Out) (C' : Mem), Ds K g H σ ∧ f g.ρ g.C = some (out, C') ∧ OutK K g H C' E out
theorem Post.trans {K : PySem.W.Frag} {g : Gh} {H H1 H2 : Hp} {C1 C2 : Mem} {ρ1 ρ2 : Rho} {σ1 σ2 : L2.St} {A1 A2 : List Addr} {o1 o2 : Nat → Addr} (a : Post K g H C1 ρ1 σ1 H1 A1 o1)
    (b : Post K { g with A := A1, C := C1, o := o1, ρ := ρ1 } H1 C2 ρ2 σ2 H2 A2 o2) : Post K g H C2 ρ2 σ2 H2 A2 o2 := ⟨a.step.trans b.step, b.ds, a.seen.trans b.seen⟩
theorem RPost.after {K : PySem.W.Frag} {g : Gh} {H H1 H2 : Hp} {C1 C2 : Mem} {ρ1 : Rho} {σ1 : L2.St} {A1 A2 : List Addr} {o1 : Nat → Addr} {d : D} {v : V} (a : Post K g H C1 ρ1 σ1 H1 A1 o1)
    (b : RPost K { g with A := A1, C := C1, o := o1, ρ := ρ1 } H1 C2 d v H2 A2) : RPost K g H C2 d v H2 A2 := ⟨a.step.trans b.step, b.base, b.al, b.mem, b.dn⟩
theorem OutK.after {K : PySem.W.Frag} {g : Gh} {H H1 : Hp} {C1 C2 : Mem} {ρ1 : Rho} {σ1 : L2.St} {A1 : List Addr} {o1 : Nat → Addr} {E : Ends} {out : Out} (a : Post K g H C1 ρ1 σ1 H1 A1 o1)
    (h : OutK K g H C2 E out) : OutK K { g with A := A1, C := C1, o := o1, ρ := ρ1 } H1 C2 E out := by
  cases out with
  | nx ρ' => exact fun σ' H' A' o' p => h σ' H' A' o' (a.trans p)
  | bk ρ' => exact fun σ' H' A' o' p => h σ' H' A' o' (a.trans p)
  | ct ρ' => exact fun σ' H' A' o' p => h σ' H' A' o' (a.trans p)
  | rt d => exact fun v H' A' p => h v H' A' (p.after a)
/-- an expression's growth, the slots as they were -/
theorem Post.grow {K : PySem.W.Frag} {g : Gh} {H H' : Hp} {A' : List Addr} {C' : Mem} {σ : L2.St} (gr : Grow g.A A' H H') (S' : Ds K { g with A := A', C := C' } H' σ) : Post K g H C' g.ρ σ H' A' g.o :=
  ⟨gr.step, S', gr.seenG⟩
theorem Post.refl {K : PySem.W.Frag} {g : Gh} {H : Hp} {σ : L2.St} (S : Ds K g H σ) : Post K g H g.C g.ρ σ H g.A g.o := ⟨Step.refl, S, Same.refl _⟩
/-- the slots change, the heap stays -/
theorem Post.slots {K : PySem.W.Frag} {g : Gh} {H H1 : Hp} {A1 : List Addr} {C1 : Mem} {ρ1 : Rho} {σ1 σ' : L2.St} {o1 : Nat → Addr} {ρ' : Rho} (a : Post K g H C1 ρ1 σ1 H1 A1 o1)
    (S : Ds K { g with A := A1, C := C1, o := o1, ρ := ρ' } H1 σ') (s : Same (hide H1 (Hid { g with A := A1, C := C1, o := o1, ρ := ρ1 })) (hide H1 (Hid { g with A := A1, C := C1, o := o1, ρ := ρ' }))) : Post K g H C1 ρ' σ' H1 A1 o1 :=
  ⟨a.step, S, a.seen.trans s⟩

/-! ### in a row -/
def sNext : SF := fun ρ C => some (.nx ρ, C)
def sSeq (f h : SF) : SF := fun ρ C => match f ρ C with
  | some (.nx ρ1, C1) => h ρ1 C1
  | r => r
section
variable {X : Cx} {st : Stmt} {rest : List Stmt} {f h : SF}
theorem s_nil : PSs X [] (sV X.K sNext) := PSs.cq pss_nil fun E σ H ⟨g, out, C', S, hf, q⟩ => by
  cases hf
  exact q σ H g.A g.o (Post.refl S)
theorem s_cons (h1 : PS X st (sV X.K f)) (h2 : PSs X rest (sV X.K h)) : PSs X (st :: rest) (sV X.K (sSeq f h)) := PSs.cq (pss_cons h1 h2) fun E σ H ⟨g, out, C', S, hf, q⟩ => by
  unfold sSeq at hf
  cases q1 : f g.ρ g.C with
  | none => rw [q1] at hf; cases hf
  | some p =>
    obtain ⟨out1, C1⟩ := p
    rw [q1] at hf
    refine ⟨g, out1, C1, S, q1, ?_⟩
    cases out1 with
    | nx ρ1 => exact fun σ1 H1 A1 o1 p1 => ⟨_, out, C', p1.ds, hf, q.after p1⟩
    | bk ρ1 => cases hf; exact q
    | ct ρ1 => cases hf; exact q
    | rt d => cases hf; exact q
theorem s_one (h1 : PS X st (sV X.K f)) : PSs X [st] (sV X.K f) := pss_one h1
end

/-! ### assignments -/
def sSet (i : Nat) (f : EF) : SF := fun ρ C => match f ρ C with
  | some (d, C1) => if i < ρ.length then some (.nx (ρ.set i (.im d)), C1) else none
  | none => none
def sAsg (k : GF) (f : EF) : SF := fun ρ C => match f ρ C with
  | some (d, C1) => match k d ρ with
    | some ρ' => some (.nx ρ', C1)
    | none => none
  | none => none
def sOwn (i : Nat) (f : LF) : SF := fun ρ C => match f ρ C with
  | some (ds, C1) => if i < ρ.length then some (.nx (ρ.set i (.ow ds)), C1) else none
  | none => none
def sFz (i : Nat) (f : SF) : SF := fun ρ C => match ρ[i]? with
  | some (.ow ds) => f (ρ.set i (.im (.lst ds))) C
  | _ => none
section
variable {X : Cx} {st : Stmt} {te : TE} {i : Nat}
theorem s_set {f : EF} (h : PS X st (tAsg te (gName i))) (c : ∀ σ H Q, tV X.K f σ H Q → te σ H Q) : PS X st (sV X.K (sSet i f)) := PS.cq h fun E σ H ⟨g, out, C', S, hf, q⟩ => by
  unfold sSet at hf
  cases q1 : f g.ρ g.C with
  | none => rw [q1] at hf; cases hf
  | some p =>
    obtain ⟨d, C1⟩ := p
    rw [q1] at hf
    dsimp only at hf
    by_cases hi : i < g.ρ.length
    · rw [if_pos hi] at hf
      cases hf
      refine c _ _ _ ⟨g, d, C', S, q1, fun v H' A' gr S' dn => ?_⟩
      obtain ⟨n1, n2⟩ := S'.setIm (i := i) dn hi
      exact q _ H' A' g.o ((Post.grow gr S').slots n1 n2)
    · rw [if_neg hi] at hf; cases hf
theorem s_asg {f : EF} {ts : List Nat} {k : GF} (h : PS X st (tAsg te (gD X.K ts k))) (c : ∀ σ H Q, tV X.K f σ H Q → te σ H Q) : PS X st (sV X.K (sAsg k f)) := PS.cq h fun E σ H ⟨g, out, C', S, hf, q⟩ => by
  unfold sAsg at hf
  cases q1 : f g.ρ g.C with
  | none => rw [q1] at hf; cases hf
  | some p =>
    obtain ⟨d, C1⟩ := p
    rw [q1] at hf
    dsimp only at hf
    cases q2 : k d g.ρ with
    | none => rw [q2] at hf; cases hf
    | some ρ' =>
      rw [q2] at hf
      cases hf
      exact c _ _ _ ⟨g, d, C', S, q1, fun v H' A' gr S' dn => ⟨_, d, ρ', S', dn, q2, fun σ' S2 _ s2 => q _ H' A' g.o ((Post.grow gr S').slots S2 s2)⟩⟩
/-- a slot gets a new list of its own -/
theorem Ds.setOw {K : PySem.W.Frag} {g : Gh} {H H' : Hp} {σ : L2.St} {A' : List Addr} {C' : Mem} {p : Addr} {xs : List V} {ds : List D} (S0 : Ds K g H σ) (hp : H p = none) (hA : p ∉ A') (gr : Grow g.A A' H H')
    (S : Ds K { g with A := A', C := C', Z := fun a => g.Z a ∨ a = p } H' σ) (e : H' p = some (.lst xs)) (t : DnAll K A' (hide H' (Hid { g with A := A', C := C', Z := fun a => g.Z a ∨ a = p })) xs ds) (hi : i < g.ρ.length) :
    Post K g H C' (g.ρ.set i (.ow ds)) (σ.set i (some (.ref p))) H' A' (fun j => if j = i then p else g.o j) := by
  have sn : Same (hide H' (Hid { g with A := A', C := C', Z := fun a => g.Z a ∨ a = p })) (hide H' (Hid { g with A := A', C := C', o := fun j => if j = i then p else g.o j, ρ := g.ρ.set i (.ow ds) })) := by
    refine hide_sub fun a x hn h => ⟨fun z => hn ?_, h⟩
    rcases z with (z | z) | ⟨j, es, z, z2⟩
    · exact .inl (.inl (.inl z))
    · exact .inl (.inr z)
    · have z2 : (if j = i then p else g.o j) = a := z2
      rcases set_get z with ⟨ej, _⟩ | ⟨nj, e2⟩
      · rw [if_pos ej] at z2
        exact .inl (.inl (.inr z2.symm))
      · rw [if_neg nj] at z2
        exact .inr ⟨j, es, e2, z2⟩
  have pne : ∀ (j : Nat) (es : List D), g.ρ[j]? = some (.ow es) → g.o j ≠ p := fun j es h z => by
    obtain ⟨_, ys, h2, _⟩ := S0.ow j es h
    rw [z, hp] at h2
    cases h2
  have h0 : g.H0 p = none := by
    cases q : g.H0 p with
    | none => rfl
    | some x =>
      have nA : p ∉ g.A := fun z => S0.al p z hp
      have := S0.base p x q nA
      rw [hp] at this; cases this
  have first : Same (hide H (Hid g)) (hide H' (Hid { g with A := A', C := C', Z := fun a => g.Z a ∨ a = p })) := by
    obtain ⟨B, eB, hB⟩ := gr.ae
    refine hide_sub fun a x hn h => ?_
    have nA : a ∉ g.A := fun z => hn (.inl (.inr z))
    refine ⟨fun z => ?_, gr.keep a x nA h⟩
    rcases z with ((z | z) | z) | z
    · exact hn (.inl (.inl z))
    · rw [z, hp] at h; cases h
    · have z : a ∈ A' := z
      rw [eB] at z
      rcases List.mem_append.mp z with z | z
      · exact nA z
      · rw [hB a z] at h; cases h
    · exact hn (.inr z)
  refine ⟨gr.step, ⟨S.base, fun a z => S.zl a (.inl z), S.al, ⟨S.mem.nd, S.mem.len, fun j a mo h1 h2 => ?_⟩, fun j k es fs h1 h2 h3 => ?_, fun j es h1 => ?_, by simp [S0.len], fun j d h1 => ?_, fun j es h1 => ?_⟩, first.trans sn⟩
  · have q := S.mem.at_ j a mo h1 h2
    cases mo with
    | lst es =>
      obtain ⟨ys, h3, h4⟩ := q
      exact ⟨ys, h3, h4.mono (Pre.refl _) sn⟩
  · have h3 : (if j = i then p else g.o j) = (if k = i then p else g.o k) := h3
    rcases set_get h1 with ⟨ej, _⟩ | ⟨nj, e1⟩ <;> rcases set_get h2 with ⟨ek, _⟩ | ⟨nk, e2⟩
    · rw [ej, ek]
    · rw [if_pos ej, if_neg nk] at h3
      exact absurd h3.symm (pne k fs e2)
    · rw [if_neg nj, if_pos ek] at h3
      exact absurd h3 (pne j es e1)
    · rw [if_neg nj, if_neg nk] at h3
      exact S.oinj j k es fs e1 e2 h3
  · show g.H0 (if j = i then p else g.o j) = none ∧ ¬ g.Z (if j = i then p else g.o j) ∧ (if j = i then p else g.o j) ∉ A'
    rcases set_get h1 with ⟨ej, _⟩ | ⟨nj, e1⟩
    · rw [if_pos ej]
      exact ⟨h0, fun z => S0.zl p z hp, hA⟩
    · rw [if_neg nj]
      obtain ⟨q1, q2, q3⟩ := S.ofr j es e1
      exact ⟨q1, fun z => q2 (.inl z), q3⟩
  · rcases set_get h1 with ⟨_, z⟩ | ⟨nj, e1⟩
    · cases z
    · obtain ⟨v, q1, q2⟩ := S.im j d e1
      exact ⟨v, by rw [List.getElem?_set_ne (fun z => nj z.symm)]; exact q1, q2.mono (Pre.refl _) sn⟩
  · show (σ.set i (some (.ref p)))[j]? = some (some (.ref (if j = i then p else g.o j))) ∧ ∃ ys, H' (if j = i then p else g.o j) = some (.lst ys) ∧ _
    rcases set_get h1 with ⟨ej, z⟩ | ⟨nj, e1⟩
    · cases z
      rw [if_pos ej, ej]
      exact ⟨List.getElem?_set_self (by rw [S0.len]; exact hi), xs, e, t.mono (Pre.refl _) sn⟩
    · rw [if_neg nj, List.getElem?_set_ne (fun z => nj z.symm)]
      obtain ⟨q1, ys, q2, q3⟩ := S.ow j es e1
      exact ⟨q1, ys, q2, q3.mono (Pre.refl _) sn⟩
theorem s_own {f : LF} (h : PS X st (tAsg te (gName i))) (c : ∀ σ H Q, tF X.K f σ H Q → te σ H Q) : PS X st (sV X.K (sOwn i f)) := PS.cq h fun E σ H ⟨g, out, C', S, hf, q⟩ => by
  unfold sOwn at hf
  cases q1 : f g.ρ g.C with
  | none => rw [q1] at hf; cases hf
  | some p =>
    obtain ⟨d, C1⟩ := p
    rw [q1] at hf
    dsimp only at hf
    by_cases hi : i < g.ρ.length
    · rw [if_pos hi] at hf
      cases hf
      exact c _ _ _ ⟨g, d, C', S, q1, fun p xs H' A' hp hA gr S' e t => q _ H' A' _ (Ds.setOw S hp hA gr S' e t hi)⟩
    · rw [if_neg hi] at hf; cases hf
/-- one's own list becomes data -/
theorem Ds.frozen {K : PySem.W.Frag} {g : Gh} {H : Hp} {σ : L2.St} {ds : List D} (S : Ds K g H σ) (hi : g.ρ[i]? = some (.ow ds)) : Ds K { g with ρ := g.ρ.set i (.im (.lst ds)) } H σ ∧ Same (hide H (Hid g)) (hide H (Hid { g with ρ := g.ρ.set i (.im (.lst ds)) })) := by
  have sn : Same (hide H (Hid g)) (hide H (Hid { g with ρ := g.ρ.set i (.im (.lst ds)) })) := hid_own fun a h => own_set (fun _ z => by cases z) h
  refine ⟨S.slots (by simp [S.len]) (fun j es h => ?_) (fun j d h => ?_), sn⟩
  · rcases set_get h with ⟨_, e⟩ | ⟨ne, e⟩
    · cases e
    · exact ⟨e, rfl⟩
  · rcases set_get h with ⟨ej, e⟩ | ⟨ne, e⟩
    · cases e
      subst ej
      obtain ⟨h1, xs, h2, h3⟩ := S.ow j ds hi
      refine ⟨_, h1, .lst (hide_some.mpr ⟨fun z => ?_, h2⟩) (h3.mono (Pre.refl _) sn)⟩
      obtain ⟨q1, q2, q3⟩ := S.ofr j ds hi
      rcases z with (z | z) | ⟨k, es, z, z2⟩
      · exact q2 z
      · exact q3 z
      · rcases set_get z with ⟨_, e⟩ | ⟨ne, e⟩
        · cases e
        · exact ne (S.oinj k j es ds e hi z2)
    · obtain ⟨v, h1, h2⟩ := S.im j d e
      exact ⟨v, h1, h2.mono (Pre.refl _) sn⟩
theorem fz_read {K : PySem.W.Frag} {f : SF} {E : Ends} {σ : L2.St} {H : Hp} (h : sV K (sFz i f) E σ H) : sV K f E σ H := by
  obtain ⟨g, out, C', S, hf, q⟩ := h
  unfold sFz at hf
  cases r : g.ρ[i]? with
  | none => rw [r] at hf; cases hf
  | some s =>
    rw [r] at hf
    cases s with
    | ow ds =>
      obtain ⟨n1, n2⟩ := S.frozen r
      exact ⟨_, out, C', n1, hf, q.after ((Post.refl S).slots n1 n2)⟩
    | no => cases hf
    | im d => cases hf
theorem s_fz {f : SF} (i : Nat) (h : PS X st (sV X.K f)) : PS X st (sV X.K (sFz i f)) := PS.cq h fun _ _ _ => fz_read
theorem ss_fz {f : SF} {sts : List Stmt} (i : Nat) (h : PSs X sts (sV X.K f)) : PSs X sts (sV X.K (sFz i f)) := PSs.cq h fun _ _ _ => fz_read
/-- one's own list is written -/
theorem Ds.ownUpd {K : PySem.W.Frag} {g : Gh} {H : Hp} {σ : L2.St} {ds es : List D} {ys : List V} (S : Ds K g H σ) (hi : g.ρ[i]? = some (.ow ds)) (t : DnAll K g.A (hide H (Hid g)) ys es) :
    Post K g H g.C (g.ρ.set i (.ow es)) σ (upd H (g.o i) (.lst ys)) g.A g.o := by
  obtain ⟨h1, xs, h2, h3⟩ := S.ow i ds hi
  obtain ⟨q1, q2, q3⟩ := S.ofr i ds hi
  have hil : i < g.ρ.length := (List.getElem?_eq_some_iff.mp hi).1
  have ownE : ∀ a, Own (g.ρ.set i (.ow es)) g.o a ↔ Own g.ρ g.o a := fun a => by
    constructor
    · rintro ⟨j, fs, z, z2⟩
      rcases set_get z with ⟨ej, _⟩ | ⟨ne, e⟩
      · exact ⟨j, ds, by rw [ej]; exact hi, z2⟩
      · exact ⟨j, fs, e, z2⟩
    · rintro ⟨j, fs, z, z2⟩
      by_cases ej : j = i
      · exact ⟨j, es, by rw [ej]; exact List.getElem?_set_self hil, z2⟩
      · exact ⟨j, fs, by rw [List.getElem?_set_ne (fun z => ej z.symm)]; exact z, z2⟩
  have sn : Same (hide H (Hid g)) (hide (upd H (g.o i) (.lst ys)) (Hid { g with ρ := g.ρ.set i (.ow es) })) := by
    refine hide_sub fun a x hn h => ⟨fun z => hn ?_, ?_⟩
    · rcases z with z | z
      · exact .inl z
      · exact .inr ((ownE a).mp z)
    · rw [upd_ne (fun e => hn (.inr ⟨i, ds, hi, e.symm⟩))]
      exact h
  have live : ∀ a, H a ≠ none → upd H (g.o i) (.lst ys) a ≠ none := fun a h => by
    by_cases e : a = g.o i
    · rw [e, upd_same]; exact fun z => by cases z
    · rw [upd_ne e]; exact h
  refine ⟨⟨⟨[], by simp, by simp⟩, live⟩, ⟨fun a x h hA => ?_, fun a z => live a (S.zl a z), fun a ha => live a (S.al a ha), ⟨S.mem.nd, S.mem.len, fun j a mo z1 z2 => ?_⟩, fun j k fs gs z1 z2 z3 => ?_, fun j fs z1 => ?_, by simp [S.len], fun j d z1 => ?_, fun j fs z1 => ?_⟩, sn⟩
  · rw [upd_ne (fun e => by rw [e, q1] at h; cases h)]
    exact S.base a x h hA
  · have q := S.mem.at_ j a mo z1 z2
    have hp : a ≠ g.o i := fun e => q3 (by rw [← e]; exact List.mem_of_getElem? z1)
    cases mo with
    | lst fs =>
      obtain ⟨zs, r1, r2⟩ := q
      exact ⟨zs, by rw [upd_ne hp]; exact r1, r2.mono (Pre.refl _) sn⟩
  · have back : ∀ (j : Nat) (fs : List D), (g.ρ.set i (.ow es))[j]? = some (.ow fs) → ∃ fs', g.ρ[j]? = some (.ow fs') := fun j fs z => by
      rcases set_get z with ⟨ej, _⟩ | ⟨_, e⟩
      · exact ⟨ds, by rw [ej]; exact hi⟩
      · exact ⟨fs, e⟩
    obtain ⟨_, y1⟩ := back j fs z1
    obtain ⟨_, y2⟩ := back k gs z2
    exact S.oinj j k _ _ y1 y2 z3
  · rcases set_get z1 with ⟨ej, _⟩ | ⟨_, e⟩
    · rw [ej]; exact ⟨q1, q2, q3⟩
    · exact S.ofr j fs e
  · rcases set_get z1 with ⟨_, e⟩ | ⟨_, e⟩
    · cases e
    · obtain ⟨v, r1, r2⟩ := S.im j d e
      exact ⟨v, r1, r2.mono (Pre.refl _) sn⟩
  · rcases set_get z1 with ⟨ej, e⟩ | ⟨nj, e⟩
    · cases e
      rw [ej]
      exact ⟨h1, ys, upd_same, t.mono (Pre.refl _) sn⟩
    · obtain ⟨r1, zs, r2, r3⟩ := S.ow j fs e
      refine ⟨r1, zs, ?_, r3.mono (Pre.refl _) sn⟩
      rw [upd_ne (fun z => nj (S.oinj j i fs ds e hi z))]
      exact r2
def sApp (i : Nat) (f : EF) : SF := fun ρ C => match f ρ C with
  | some (d, C1) => match ρ[i]? with
    | some (.ow ds) => if ds.length ≤ 100000 then some (.nx (ρ.set i (.ow (ds ++ [d]))), C1) else none
    | _ => none
  | none => none
theorem s_app {f : EF} (h : PS X st (tDrop (tBM X.K "list" rAppend (tVar i) (tCons te tNil)))) (c : ∀ σ H Q, tV X.K f σ H Q → te σ H Q) : PS X st (sV X.K (sApp i f)) := PS.cq h fun E σ H ⟨g, out, C', S, hf, q⟩ => by
  unfold sApp at hf
  cases q1 : f g.ρ g.C with
  | none => rw [q1] at hf; cases hf
  | some p =>
    obtain ⟨d, C1⟩ := p
    rw [q1] at hf
    dsimp only at hf
    cases r : g.ρ[i]? with
    | none => rw [r] at hf; cases hf
    | some s =>
      rw [r] at hf
      cases s with
      | ow ds =>
        dsimp only at hf
        by_cases hl : ds.length ≤ 100000
        · rw [if_pos hl] at hf
          cases hf
          obtain ⟨h1, xs, h2, h3⟩ := S.ow i ds r
          refine ⟨_, h1, .inl ⟨rfl, xs, .inl (.inl h2)⟩, c _ _ _ ⟨g, d, C', S, q1, fun v H' A' gr S' dn => ?_⟩⟩
          obtain ⟨z1, ys, z2, z3⟩ := S'.ow i ds r
          refine ⟨g.o i, ys, v, rfl, rfl, z2, line5 (by rw [z3.length]; exact hl), ?_⟩
          exact q _ _ A' g.o ((Post.grow gr S').trans (S'.ownUpd r (z3.append (.cons dn .nil))))
        · rw [if_neg hl] at hf; cases hf
      | no => cases hf
      | im d => cases hf
/-- y = x.pop() -/
def sPop (i j : Nat) : SF := fun ρ C => match ρ[i]? with
  | some (.ow ds) => match ds.getLast? with
    | some d => if j < ρ.length then some (.nx ((ρ.set i (.ow ds.dropLast)).set j (.im d)), C) else none
    | none => none
  | _ => none
theorem s_pop {j : Nat} (h : PS X st (tAsg (tBM0 X.K "list" rPop (tVar i)) (gName j))) : PS X st (sV X.K (sPop i j)) := PS.cq h fun E σ H ⟨g, out, C', S, hf, q⟩ => by
  unfold sPop at hf
  cases r : g.ρ[i]? with
  | none => rw [r] at hf; cases hf
  | some s =>
    rw [r] at hf
    cases s with
    | ow ds =>
      dsimp only at hf
      cases r2 : ds.getLast? with
      | none => rw [r2] at hf; cases hf
      | some d =>
        rw [r2] at hf
        dsimp only at hf
        by_cases hj : j < g.ρ.length
        · rw [if_pos hj] at hf
          cases hf
          obtain ⟨h1, xs, h2, h3⟩ := S.ow i ds r
          have r3 : ds[ds.length - 1]? = some d := by rw [← List.getLast?_eq_getElem?]; exact r2
          obtain ⟨v, e1, e2⟩ := h3.get r3
          have P1 := S.ownUpd r h3.dropLast
          refine ⟨_, h1, .inl ⟨rfl, xs, .inl (.inl h2)⟩, g.o i, xs, v, rfl, rfl, h2, by rw [h3.length]; exact e1, ?_⟩
          obtain ⟨n1, n2⟩ := P1.ds.setIm (i := j) (e2.mono (Pre.refl _) P1.seen) (by simpa using hj)
          exact q _ _ g.A g.o (P1.slots n1 n2)
        · rw [if_neg hj] at hf; cases hf
    | no => cases hf
    | im d => cases hf
/-- x += e, ints -/
def sAug (i : Nat) (k : Int → Int → Int) (f : EF) : SF := fun ρ C => match f ρ C with
  | some (.int y, C1) => match ρ[i]? with
    | some (.im (.int x)) => some (.nx (ρ.set i (.im (.int (k x y)))), C1)
    | _ => none
  | _ => none
theorem s_aug {f : EF} {k : Int → Int → Int} (h : PS X st (tAug i te (ipI k))) (c : ∀ σ H Q, tV X.K f σ H Q → te σ H Q) : PS X st (sV X.K (sAug i k f)) := PS.cq h fun E σ H ⟨g, out, C', S, hf, q⟩ => by
  unfold sAug at hf
  cases q1 : f g.ρ g.C with
  | none => rw [q1] at hf; cases hf
  | some p =>
    obtain ⟨d, C1⟩ := p
    rw [q1] at hf
    cases d with
    | int y =>
      dsimp only at hf
      cases r : g.ρ[i]? with
      | none => rw [r] at hf; cases hf
      | some s =>
        rw [r] at hf
        cases s with
        | im dx =>
          cases dx with
          | int x =>
            cases hf
            obtain ⟨v, h1, h2⟩ := S.im i _ r
            cases h2
            refine ⟨_, h1, c _ _ _ ⟨g, _, _, S, q1, fun w H' A' gr S' dn => ?_⟩⟩
            cases dn
            obtain ⟨n1, n2⟩ := S'.setIm (i := i) (v := .int (k x y)) (.int (k x y)) ((List.getElem?_eq_some_iff.mp r).1)
            exact ⟨x, y, rfl, rfl, q _ H' A' g.o ((Post.grow gr S').slots n1 n2)⟩
          | _ => cases hf
        | no => cases hf
        | ow ds => cases hf
    | _ => cases hf
/-- an expression whose value is dropped -/ -- ht
def sDrop (f : EF) : SF := fun ρ C => match f ρ C with
  | some (_, C1) => some (.nx ρ, C1)
  | none => none
theorem s_drop {f : EF} (h : PS X st (tDrop te)) (c : ∀ σ H Q, tV X.K f σ H Q → te σ H Q) : PS X st (sV X.K (sDrop f)) := PS.cq h fun E σ H ⟨g, out, C', S, hf, q⟩ => by
  unfold sDrop at hf
  cases q1 : f g.ρ g.C with
  | none => rw [q1] at hf; cases hf
  | some p =>
    obtain ⟨d, C1⟩ := p
    rw [q1] at hf
    cases hf
    exact c _ _ _ ⟨g, _, _, S, q1, fun w H' A' gr S' dn => q _ H' A' g.o (Post.grow gr S')⟩
end

/-! ### return, if, pass -/
def sRet (f : EF) : SF := fun ρ C => match f ρ C with
  | some (d, C1) => some (.rt d, C1)
  | none => none
def sRetN : SF := fun _ C => some (.rt .non, C)
def sIf (c : BF) (f h : SF) : SF := fun ρ C => match c ρ C with
  | some (true, C1) => f ρ C1
  | some (false, C1) => h ρ C1
  | none => none
theorem Ds.rpost {K : PySem.W.Frag} {g : Gh} {H H' : Hp} {σ : L2.St} {A' : List Addr} {C' : Mem} {v : V} {d : D} (gr : Grow g.A A' H H') (S : Ds K { g with A := A', C := C' } H' σ) (dn : Dn K A' (hide H' (Hid { g with A := A', C := C' })) v d) : RPost K g H C' d v H' A' := by
  have sn : Same (hide H' (Hid { g with A := A', C := C' })) (hide H' (Hid0 g.Z A')) := hid_weak (g := { g with A := A', C := C' })
  refine ⟨gr.step, S.base, S.al, ⟨S.mem.nd, S.mem.len, fun i a mo h1 h2 => ?_⟩, dn.mono (Pre.refl _) sn⟩
  have q := S.mem.at_ i a mo h1 h2
  cases mo with
  | lst ds =>
    obtain ⟨xs, h3, h4⟩ := q
    exact ⟨xs, h3, h4.mono (Pre.refl _) sn⟩
section
variable {X : Cx} {e : Expr} {f : EF} {pos : Pos} {c : Expr} {a b : List Stmt} {fc : BF} {fa fb : SF}
theorem s_ret (he : PE X e (tV X.K f)) : PS X (.Return (some e) pos) (sV X.K (sRet f)) := PS.cq (ps_ret he) fun E σ H ⟨g, out, C', S, hf, q⟩ => by
  unfold sRet at hf
  cases q1 : f g.ρ g.C with
  | none => rw [q1] at hf; cases hf
  | some p =>
    obtain ⟨d, C1⟩ := p
    rw [q1] at hf
    cases hf
    exact ⟨g, d, C', S, q1, fun v H' A' gr S' dn => q v H' A' (Ds.rpost gr S' dn)⟩
theorem s_retN : PS X (.Return none pos) (sV X.K sRetN) := PS.cq ps_retN fun E σ H ⟨g, out, C', S, hf, q⟩ => by
  cases hf
  exact q .non H g.A (Ds.rpost (Grow.refl S.al) S .non)
theorem s_if (hc : PT X c (tC X.K fc)) (ha : PSs X a (sV X.K fa)) (hb : PSs X b (sV X.K fb)) : PS X (.If c a b pos) (sV X.K (sIf fc fa fb)) := PS.cq (ps_if hc ha hb) fun E σ H ⟨g, out, C', S, hf, q⟩ => by
  unfold sIf at hf
  cases q1 : fc g.ρ g.C with
  | none => rw [q1] at hf; cases hf
  | some p =>
    obtain ⟨k, C1⟩ := p
    rw [q1] at hf
    refine ⟨g, k, C1, S, q1, fun H' A' gr S' => ?_⟩
    cases k with
    | true => exact ⟨_, out, C', S', hf, q.after (Post.grow gr S')⟩
    | false => exact ⟨_, out, C', S', hf, q.after (Post.grow gr S')⟩
theorem s_pass : PS X (.Pass pos) (sV X.K sNext) := PS.cq ps_pass fun E σ H ⟨g, out, C', S, hf, q⟩ => by
  cases hf
  exact q σ H g.A g.o (Post.refl S)
def sBrk : SF := fun ρ C => some (.bk ρ, C)
def sCont : SF := fun ρ C => some (.ct ρ, C)
theorem s_brk : PS X (.Break pos) (sV X.K sBrk) := PS.cq ps_break fun E σ H ⟨g, out, C', S, hf, q⟩ => by
  cases hf
  exact q σ H g.A g.o (Post.refl S)
theorem s_cont : PS X (.Continue pos) (sV X.K sCont) := PS.cq ps_continue fun E σ H ⟨g, out, C', S, hf, q⟩ => by
  cases hf
  exact q σ H g.A g.o (Post.refl S)
/-! ### while, for -/
def whileN (c : BF) (b : SF) : Nat → SF
  | 0 => fun _ _ => none
  | n + 1 => fun ρ C => match c ρ C with
    | some (true, C1) => match b ρ C1 with
      | some (.nx ρ1, C2) => whileN c b n ρ1 C2
      | some (.ct ρ1, C2) => whileN c b n ρ1 C2
      | some (.bk ρ1, C2) => some (.nx ρ1, C2)
      | some (.rt d, C2) => some (.rt d, C2)
      | none => none
    | some (false, C1) => some (.nx ρ, C1)
    | none => none
open Classical in
noncomputable def sWhile (c : BF) (b : SF) : SF := fun ρ C => if h : ∃ n r, whileN c b n ρ C = some r then some (choose (choose_spec h)) else none
theorem whileN_mono {c : BF} {b : SF} : ∀ {n : Nat} {ρ : Rho} {C : Mem} {r : Out × Mem}, whileN c b n ρ C = some r → ∀ m, n ≤ m → whileN c b m ρ C = some r
  | 0, _, _, _, h, _, _ => by cases h
  | n + 1, ρ, C, r, h, m, hm => by
    obtain ⟨m, rfl⟩ : ∃ k, m = k + 1 := ⟨m - 1, by omega⟩
    unfold whileN at h ⊢
    cases q : c ρ C with
    | none => rw [q] at h; cases h
    | some p =>
      obtain ⟨k, C1⟩ := p
      rw [q] at h
      cases k with
      | false => exact h
      | true =>
        dsimp only at h ⊢
        cases q2 : b ρ C1 with
        | none => rw [q2] at h; cases h
        | some p2 =>
          obtain ⟨out, C2⟩ := p2
          rw [q2] at h
          cases out with
          | nx ρ1 => exact whileN_mono h m (by omega)
          | ct ρ1 => exact whileN_mono h m (by omega)
          | bk ρ1 => exact h
          | rt d => exact h
theorem sWhile_some {c : BF} {b : SF} {ρ : Rho} {C : Mem} {r : Out × Mem} : sWhile c b ρ C = some r ↔ ∃ n, whileN c b n ρ C = some r := by
  unfold sWhile
  constructor
  · intro h
    split at h
    · rename_i hx
      have := Classical.choose_spec (Classical.choose_spec hx)
      exact ⟨_, this.trans h⟩
    · cases h
  · rintro ⟨n, h⟩
    have hx : ∃ n r, whileN c b n ρ C = some r := ⟨n, r, h⟩
    rw [dif_pos hx]
    have h2 := Classical.choose_spec (Classical.choose_spec hx)
    have e1 := whileN_mono h (max n (Classical.choose hx)) (Nat.le_max_left _ _)
    have e2 := whileN_mono h2 (max n (Classical.choose hx)) (Nat.le_max_right _ _)
    exact e2.symm.trans e1
/-- one turn -/
theorem sWhile_false {c : BF} {b : SF} {ρ : Rho} {C C1 : Mem} (h : c ρ C = some (false, C1)) : sWhile c b ρ C = some (.nx ρ, C1) := sWhile_some.mpr ⟨1, by unfold whileN; rw [h]⟩
theorem sWhile_next {c : BF} {b : SF} {ρ ρ1 : Rho} {C C1 C2 : Mem} {r : Out × Mem} (h : c ρ C = some (true, C1)) (h2 : b ρ C1 = some (.nx ρ1, C2)) (h3 : sWhile c b ρ1 C2 = some r) : sWhile c b ρ C = some r := by
  obtain ⟨n, hn⟩ := sWhile_some.mp h3
  exact sWhile_some.mpr ⟨n + 1, by unfold whileN; rw [h]; dsimp only; rw [h2]; exact hn⟩
theorem sWhile_ret {c : BF} {b : SF} {ρ : Rho} {C C1 C2 : Mem} {d : D} (h : c ρ C = some (true, C1)) (h2 : b ρ C1 = some (.rt d, C2)) : sWhile c b ρ C = some (.rt d, C2) := sWhile_some.mpr ⟨1, by unfold whileN; rw [h]; dsimp only; rw [h2]⟩
theorem s_while (hp : PassesOwn (model X.prog X.w) X.A X.env X.xe) (hc : PT X c (tC X.K fc)) (hb : PSs X a (sV X.K fa)) : PS X (.While c a [] pos) (sV X.K (sWhile fc fa)) := PS.cq (ps_while hp hc hb) fun E σ H ⟨g, out, C', S, hf, q⟩ => by
  obtain ⟨n, hn⟩ := sWhile_some.mp hf
  refine ⟨fun m σ2 H2 => ∃ (A2 : List Addr) (C2 : Mem) (o2 : Nat → Addr) (ρ2 : Rho), Post X.K g H C2 ρ2 σ2 H2 A2 o2 ∧ whileN fc fa m ρ2 C2 = some (out, C'), ⟨n, g.A, g.C, g.o, g.ρ, Post.refl S, hn⟩, ?_⟩
  rintro m σ2 H2 ⟨A2, C2, o2, ρ2, p2, hm⟩
  cases m with
  | zero => cases hm
  | succ m =>
    unfold whileN at hm
    cases q1 : fc ρ2 C2 with
    | none => rw [q1] at hm; cases hm
    | some pr =>
      obtain ⟨k, C3⟩ := pr
      rw [q1] at hm
      refine ⟨_, k, C3, p2.ds, q1, fun H3 A3 gr3 S3 => ?_⟩
      have p3 := p2.trans (Post.grow gr3 S3)
      cases k with
      | false => cases hm; exact q _ _ _ _ p3
      | true =>
        dsimp only at hm
        cases q2 : fa ρ2 C3 with
        | none => rw [q2] at hm; cases hm
        | some pr2 =>
          obtain ⟨out2, C4⟩ := pr2
          rw [q2] at hm
          refine ⟨fun σ' H' => ∃ (A2 : List Addr) (C2 : Mem) (o2 : Nat → Addr) (ρ2 : Rho), Post X.K g H C2 ρ2 σ' H' A2 o2 ∧ whileN fc fa m ρ2 C2 = some (out, C'), fun σ' H' h => ⟨m, Nat.lt_succ_self _, h⟩, _, out2, C4, S3, q2, ?_⟩
          cases out2 with
          | nx ρ4 => exact fun σ4 H4 A4 o4 p4 => ⟨A4, C4, o4, ρ4, p3.trans p4, hm⟩
          | ct ρ4 => exact fun σ4 H4 A4 o4 p4 => ⟨A4, C4, o4, ρ4, p3.trans p4, hm⟩
          | bk ρ4 => cases hm; exact fun σ4 H4 A4 o4 p4 => q _ _ _ _ (p3.trans p4)
          | rt d => cases hm; exact fun v H4 A4 p4 => q _ _ _ (p4.after p3)
def forGo (k : GF) (b : SF) : List D → SF
  | [] => fun ρ C => some (.nx ρ, C)
  | d :: ds => fun ρ C => match k d ρ with
    | some ρ1 => match b ρ1 C with
      | some (.nx ρ2, C2) => forGo k b ds ρ2 C2
      | some (.ct ρ2, C2) => forGo k b ds ρ2 C2
      | some (.bk ρ2, C2) => some (.nx ρ2, C2)
      | some (.rt d, C2) => some (.rt d, C2)
      | none => none
    | none => none
def sFor (fi : LF) (k : GF) (b : SF) : SF := fun ρ C => match fi ρ C with
  | some (ds, C1) => forGo k b ds ρ C1
  | none => none
theorem s_for {tg iter : Expr} {body : List Stmt} {fi : LF} {ts : List Nat} {k : GF} {fb : SF} (hp : PassesOwn (model X.prog X.w) X.A X.env X.xe) (hc : X.calm = true) (hi : PI X tg iter (tI X.K false fi)) (hg : PG X tg (gD X.K ts k)) (hb : PSs X body (sV X.K fb))
    (hs : ∀ x, foldedSetIterable iter X.env x = pure x := by intro _; rfl) : PS X (.For tg iter body [] pos) (sV X.K (sFor fi k fb)) := PS.cq (ps_for hp hc hi hg hb hs) fun E σ H ⟨g, out, C', S, hf, q⟩ => by
  unfold sFor at hf
  cases q1 : fi g.ρ g.C with
  | none => rw [q1] at hf; cases hf
  | some pr =>
    obtain ⟨ds, C1⟩ := pr
    rw [q1] at hf
    refine ⟨g, ds, C1, S, q1, fun J H1 A1 gr1 S1 W => ?_⟩
    refine ⟨fun i m σ2 H2 => m = ds.length - i ∧ i ≤ ds.length ∧ ∃ (A2 : List Addr) (C2 : Mem) (o2 : Nat → Addr) (ρ2 : Rho), Post X.K { g with A := A1, C := C1 } H1 C2 ρ2 σ2 H2 A2 o2 ∧ forGo k fb (ds.drop i) ρ2 C2 = some (out, C'),
      ⟨_, rfl, Nat.zero_le _, A1, C1, g.o, g.ρ, Post.refl S1, hf⟩, ?_⟩
    rintro i m σ2 H2 ⟨rfl, hi, A2, C2, o2, ρ2, p2, hgo⟩
    have p02 := (Post.grow gr1 S1).trans p2
    by_cases hlt : i < ds.length
    case neg =>
      have e : i = ds.length := by omega
      subst e
      rw [List.drop_length] at hgo
      cases hgo
      exact .inl ⟨W.stops H2 _ p2.seen (fun z => by cases z), q _ _ _ _ p02⟩
    rw [List.drop_eq_getElem_cons hlt] at hgo
    unfold forGo at hgo
    refine .inr ⟨W.goes i H2 _ hlt p2.seen (fun z => by cases z), fun σ' H' => ∃ (A2 : List Addr) (C2 : Mem) (o2 : Nat → Addr) (ρ2 : Rho), Post X.K { g with A := A1, C := C1 } H1 C2 ρ2 σ' H' A2 o2 ∧ forGo k fb (ds.drop (i + 1)) ρ2 C2 = some (out, C'), fun σ' H' h => ⟨ds.length - (i + 1), by omega, rfl, hlt, h⟩, fun x H3 hy => ?_⟩
    obtain ⟨sm, dx⟩ := W.yields i x H2 H3 _ σ2 _ (List.getElem?_eq_getElem hlt) p2.ds p2.step.pre p2.seen (fun z => by cases z) hy
    have S3 := p2.ds.keep sm
    have p3 := p2.trans (Post.grow (g := { g with A := A2, C := C2, o := o2, ρ := ρ2 }) (Grow.of (fun a ha => p2.ds.al a ha) sm) S3)
    cases hk : k ds[i] ρ2 with
    | none => rw [hk] at hgo; cases hgo
    | some ρ3 =>
      rw [hk] at hgo
      dsimp only at hgo
      refine ⟨_, ds[i], ρ3, S3, dx, hk, fun σ4 S4 _ s4 => ?_⟩
      have p4 := p3.slots S4 s4
      cases q2 : fb ρ3 C2 with
      | none => rw [q2] at hgo; cases hgo
      | some pr2 =>
        obtain ⟨out2, C5⟩ := pr2
        rw [q2] at hgo
        refine ⟨_, out2, C5, S4, q2, ?_⟩
        cases out2 with
        | nx ρ5 => exact fun σ5 H5 A5 o5 p5 => ⟨A5, C5, o5, ρ5, p4.trans p5, hgo⟩
        | ct ρ5 => exact fun σ5 H5 A5 o5 p5 => ⟨A5, C5, o5, ρ5, p4.trans p5, hgo⟩
        | bk ρ5 => cases hgo; exact fun σ5 H5 A5 o5 p5 => q _ _ _ _ ((Post.grow gr1 S1).trans (p4.trans p5))
        | rt d => cases hgo; exact fun v H5 A5 p5 => q _ _ _ ((p5.after p4).after (Post.grow gr1 S1))
end

/-! ### defs -/
def rho0 (n : Nat) (ds : List D) : Rho := ds.map Sl.im ++ List.replicate (n - ds.length) .no
def runF (n : Nat) (b : SF) : FF := fun ds C => match b (rho0 n ds) C with
  | some (.rt d, C1) => some (d, C1)
  | some (.nx _, C1) => some (.non, C1)
  | _ => none
theorem start_len (N : List Str) (vs : List V) (h : vs.length ≤ N.length) : (L2.start N vs).length = N.length := by
  unfold L2.start
  rw [List.length_append, List.length_map, List.length_replicate] -- ht
  omega
/-- what the def's body asks at its entry -/
theorem entry {K : PySem.W.Frag} {Z : Addr → Prop} {A : List Addr} {C : Mem} {H : Hp} {N : List Str} {vs : List V} {ds : List D} (hl : vs.length ≤ N.length) (dn : DnAll K A (hide H (Hid0 Z A)) vs ds) (m : MemOk K A C H (hide H (Hid0 Z A)))
    (zl : ∀ a, Z a → H a ≠ none) (al : ∀ a ∈ A, H a ≠ none) : Ds K ⟨H, Z, A, C, fun _ => 0, rho0 N.length ds⟩ H (L2.start N vs) := by
  have hno : ∀ (i : Nat) (es : List D), (rho0 N.length ds)[i]? ≠ some (.ow es) := fun i es h => by
    unfold rho0 at h
    rcases List.mem_append.mp (List.mem_of_getElem? h) with z | z
    · obtain ⟨_, _, z⟩ := List.mem_map.mp z; cases z
    · have z := List.eq_of_mem_replicate z; cases z
  have e : hide H (Hid ⟨H, Z, A, C, fun _ => 0, rho0 N.length ds⟩) = hide H (Hid0 Z A) := hide_congr fun a => by
    constructor
    · rintro (z | ⟨i, es, z, _⟩)
      · exact z
      · exact absurd z (hno i es)
    · exact fun z => .inl z
  refine ⟨fun _ _ h _ => h, zl, al, by rw [e]; exact m, fun i j es fs h => absurd h (hno i es), fun i es h => absurd h (hno i es), ?_, fun i d h => ?_, fun i es h => absurd h (hno i es)⟩
  · rw [start_len N vs hl]
    unfold rho0
    rw [List.length_append, List.length_map, List.length_replicate, ← dn.length]
    omega
  · have h : (ds.map Sl.im ++ List.replicate (N.length - ds.length) .no)[i]? = some (.im d) := h
    rw [e]
    by_cases hi : i < ds.length
    · rw [List.getElem?_append_left (by simpa using hi), List.getElem?_map] at h
      cases q : ds[i]? with
      | none => rw [q] at h; cases h
      | some d' =>
        rw [q] at h
        cases h
        obtain ⟨v, h1, h2⟩ := dn.get q
        refine ⟨v, ?_, h2⟩
        unfold L2.start
        rw [List.getElem?_append_left (by simp only [List.length_map]; exact (List.getElem?_eq_some_iff.mp h1).1), List.getElem?_map, h1]
        rfl
    · rw [List.getElem?_append_right (by simpa using hi)] at h
      have z := List.eq_of_mem_replicate (List.mem_of_getElem? h)
      cases z
section
variable {P : Program} {w : World} {K : PySem.W.Frag} {mg : Str → Option Value} {base : Heap} -- ht
/-- THE RULE for a def -/
theorem fn_ok {x qual : Str} {st : Stmt} {f : Addr} {fd : FuncData} {N ps : List Str} {k : Nat} {b : SF} (F : Fun K x qual st f fd) (S : FnScope N ps (defScope st)) (hps : ps.length ≤ N.length)
    (hbody : ∀ (cdv : Value) (A : Around) (outer : List Env) (s : Shared) (H : Hp) (E : XK), Room k (A.deeper (envOfC qual (defScope st) s.heap.objs.size f cdv)) →
      PSs (cxOf CX0 P w K mg base N qual (defScope st) f cdv A outer s H E).nox (defBody st) (sV K b)) : FnOk P w K mg base CX0 (k + 1) f fd ps (spD K ps.length (runF N.length b)) := by
  refine F.ok S (fun vs H Q E h => ?_) (fun cdv A outer s H vs Q E hr h => ⟨_, hbody cdv A outer s H E hr, ?_⟩)
  · obtain ⟨Z, A, C, ds, d, C', hl, dn, _⟩ := h
    rw [dn.length]; exact hl
  · obtain ⟨Z, A, C, ds, d, C', hl, dn, m, zl, al, hF, q⟩ := h
    have Sd := entry (N := N) (by rw [dn.length, hl]; exact hps) dn m zl al
    unfold runF at hF
    cases q1 : b (rho0 N.length ds) C with
    | none => rw [q1] at hF; cases hF
    | some pr =>
      obtain ⟨out, C1⟩ := pr
      rw [q1] at hF
      cases out with
      | rt d1 =>
        cases hF
        refine ⟨_, _, _, Sd, q1, fun v H' A' p => q v H' A' ⟨p.step.ae, fun a x hn hx => p.base a x hx (fun z => ?_), fun a ha => p.step.live a (al a ha)⟩ p.al p.mem p.dn⟩
        obtain ⟨B, eB, hB⟩ := p.step.ae
        rw [eB] at z
        rcases List.mem_append.mp z with z | z
        · exact hn z
        · rw [hB a z] at hx; cases hx
      | nx ρ1 =>
        cases hF
        refine ⟨_, _, _, Sd, q1, fun σ' H' A' o' p => ?_⟩
        have r := Ds.rpost (Grow.refl p.ds.al) p.ds (.non)
        refine q .non H' A' ⟨p.step.ae, fun a x hn hx => r.base a x hx (fun z => ?_), fun a ha => p.step.live a (al a ha)⟩ r.al r.mem r.dn
        obtain ⟨B, eB, hB⟩ := p.step.ae
        rw [eB] at z
        rcases List.mem_append.mp z with z | z
        · exact hn z
        · rw [hB a z] at hx; cases hx
      | bk ρ1 => cases hF
      | ct ρ1 => cases hF
/-- a promise by another function that is told the same -/
theorem fn_as {f : Addr} {fd : FuncData} {ps : List Str} {k n : Nat} {F G : FF} (h : FnOk P w K mg base CX0 k f fd ps (spD K n F)) (e : ∀ ds C r, G ds C = some r → F ds C = some r) : FnOk P w K mg base CX0 k f fd ps (spD K n G) :=
  h.imp fun vs H Q E ⟨Z, A, C, ds, d, C', hl, dn, m, zl, al, hF, q⟩ => ⟨Z, A, C, ds, d, C', hl, dn, m, zl, al, e _ _ _ hF, q⟩
end
end Ht


set_option maxRecDepth 100000
set_option maxHeartbeats 1000000 -- ht
/-! The value layer: changing lists, tuples put together, isinstance, keywords; what the generator names. -/
namespace Ht
open PySem PySem.Spec PyProof.Rows L2 -- ht

/-- the built-in names that are not hidden by the module -/
structure Bt (mg : Str → Option Value) : Prop where
  len : mg "len" = none
  abs : mg "abs" = none
  int : mg "int" = none
  sum : mg "sum" = none
  max : mg "max" = none
  min : mg "min" = none
  list : mg "list" = none
  tuple : mg "tuple" = none
  zip : mg "zip" = none
  range : mg "range" = none
  enumerate : mg "enumerate" = none
  isinstance : mg "isinstance" = none
  sorted : mg "sorted" = none
  set : mg "set" = none
  bool : mg "bool" = none
  all : mg "all" = none
  any : mg "any" = none
  repr : mg "repr" = none
  str : mg "str" = none
  dict : mg "dict" = none
theorem bt_len : bootBuiltins "len" = some (.builtin "len") := by decide +kernel
theorem bt_abs : bootBuiltins "abs" = some (.builtin "abs") := by decide +kernel
theorem bt_int : bootBuiltins "int" = some (.type "int") := by decide +kernel
theorem bt_sum : bootBuiltins "sum" = some (.builtin "sum") := by decide +kernel
theorem bt_max : bootBuiltins "max" = some (.builtin "max") := by decide +kernel
theorem bt_min : bootBuiltins "min" = some (.builtin "min") := by decide +kernel
theorem bt_sorted : bootBuiltins "sorted" = some (.builtin "sorted") := by decide +kernel
theorem bt_bool : bootBuiltins "bool" = some (.type "bool") := by decide +kernel
theorem bt_all : bootBuiltins "all" = some (.builtin "all") := by decide +kernel
theorem bt_any : bootBuiltins "any" = some (.builtin "any") := by decide +kernel
theorem bt_repr : bootBuiltins "repr" = some (.builtin "repr") := by decide +kernel
theorem Dv.blk {X : Cx} {s : Shared} {H : Hp} {scope : Scope} {cenv : Env} {fp : List Addr} (d : Dv X) : Dv (X.blk s H scope cenv fp) := ⟨d.seer, d.tree, d.depth, d.stack⟩
theorem dv_of {P : Program} {w : World} {K : PySem.W.Frag} {mg : Str → Option Value} {base : Heap} {N : List Str} {qual : Str} {scope : Scope} {f : Addr} {cd : Value} {A : Around} {outer : List Env} {s : Shared} {H : Hp} {E : XK} {k : Nat}
    (hk : 40 ≤ k) (hr : Room k (A.deeper (envOfC qual scope s.heap.objs.size f cd))) (se : base.NoSeer) (tr : P.given.tree = none) (h1 : scope.isGenerator = false) (h2 : scope.isCoroutine = false) :
    Dv (cxOf CX0 P w K mg base N qual scope f cd A outer s H E).nox :=
  ⟨se, tr, by have := hr.dp; show (A.deeper (envOfC qual scope s.heap.objs.size f cd)).depth + 100 < _; omega, ⟨_, _, rfl, h1, h2, rfl, rfl⟩⟩
def kNeg (d : D) : Option D := match d with | .int b => some (.int (-b)) | _ => none
def kNot (d : D) : Option D := match d with | .bl b => some (.bl (!b)) | _ => none
theorem lc_yes {K : PySem.W.Frag} {vs ts : List Nat} {fi : LF} {k : GF} {ef : EF} {σ : L2.St} {H : Hp} {Q : VK} (h : tLc (tI K true fi) (gD K ts k) (tC K bTrue) (tV K ef) vs σ H Q) : tLc (tI K true fi) (gD K ts k) tYes (tV K ef) vs σ H Q := by
  obtain ⟨g, ds, C', S, hf, q⟩ := h
  refine ⟨g, ds, C', S, hf, fun J H' A' gr S' W p hp => ?_⟩
  obtain ⟨W', w0, turn⟩ := q J H' A' gr S' W p hp
  refine ⟨W', w0, fun i m H2 h2 => ?_⟩
  rcases turn i m H2 h2 with h | ⟨go, Nx, hN, step⟩
  · exact .inl h
  · refine .inr ⟨go, Nx, hN, fun x H3 hy => ?_⟩
    obtain ⟨g3, d3, ρ3, S3, dn3, hk3, q3⟩ := step x H3 hy
    refine ⟨g3, d3, ρ3, S3, dn3, hk3, fun σ4 S4 w4 s4 => ?_⟩
    obtain ⟨e1, e2⟩ := q3 σ4 S4 w4 s4
    exact ⟨e1, tt_yes e2⟩

/-! ### a changing list -/
def eIxM (f h : EF) : EF := fun ρ C => match f ρ C with
  | some (.mu m, C1) => match h ρ C1 with
    | some (.int i, C2) => match C2[m]? with
      | some (.lst ds) => match atI ds i with
        | some d => some (d, C2)
        | none => none
      | _ => none
    | _ => none
  | _ => none
theorem eIxM_some {f h : EF} {ρ : Rho} {C C2 : Mem} {d : D} (e : eIxM f h ρ C = some (d, C2)) : ∃ m i ds C1, f ρ C = some (.mu m, C1) ∧ h ρ C1 = some (.int i, C2) ∧ C2[m]? = some (.lst ds) ∧ atI ds i = some d := by
  unfold eIxM at e
  cases q : f ρ C with
  | none => rw [q] at e; cases e -- ht
  | some p =>
    obtain ⟨x, C1⟩ := p
    rw [q] at e
    cases x with
    | mu m =>
      dsimp only at e
      cases q2 : h ρ C1 with
      | none => rw [q2] at e; cases e
      | some p2 =>
        obtain ⟨y, C3⟩ := p2
        rw [q2] at e
        cases y with
        | int i =>
          dsimp only at e
          cases q3 : C3[m]? with
          | none => rw [q3] at e; cases e
          | some mo =>
            rw [q3] at e
            cases mo with
            | lst ds =>
              dsimp only at e
              cases q4 : atI ds i with
              | none => rw [q4] at e; cases e
              | some u => rw [q4] at e; cases e; exact ⟨m, i, ds, C1, rfl, q2, q3, q4⟩
        | _ => cases e
    | _ => cases e
theorem Ds.mu_at {K : PySem.W.Frag} {g : Gh} {H : Hp} {σ : L2.St} {m : Nat} {a : Addr} {ds : List D} (S : Ds K g H σ) (hA : g.A[m]? = some a) (hC : g.C[m]? = some (.lst ds)) : ∃ xs, H a = some (.lst xs) ∧ DnAll K g.A (hide H (Hid g)) xs ds :=
  S.mem.at_ m a (.lst ds) hA hC
section
variable {X : Cx} {a b : Expr} {f h : EF} {pos : Pos} {st : Stmt} {te : TE} {i : Nat}
theorem v_ixM (ha : PE X a (tV X.K f)) (hb : PE X b (tV X.K h)) (hs : PlainIx b := by exact fun _ _ => rfl) : PE X (.Subscript a b pos) (tV X.K (eIxM f h)) := PE.cq (pe_ix ix_list ha hb hs) fun σ H Q ⟨g, d, C', S, hf, q⟩ => by
  obtain ⟨m, i, ds, C1, q1, q2, q3, q4⟩ := eIxM_some hf
  refine row2 S q1 q2 fun v w H' A' gr S' dv dw => ?_
  cases dw
  cases dv with
  | @mu l _ hA =>
    obtain ⟨xs, h1, h2⟩ := S'.mu_at hA q3
    obtain ⟨u, e1, e2⟩ := atI_dn h2 q4
    exact ⟨_, _, i, u, rfl, rfl, .inl (.inl h1), e1, q u H' A' gr S' e2⟩
/-- a changing list is written -/
theorem Ds.muUpd {K : PySem.W.Frag} {g : Gh} {H : Hp} {σ : L2.St} {m : Nat} {l : Addr} {es : List D} {ys : List V} (S : Ds K g H σ) (hA : g.A[m]? = some l) (t : DnAll K g.A (hide H (Hid g)) ys es) :
    Post K g H (g.C.set m (.lst es)) g.ρ σ (upd H l (.lst ys)) g.A g.o := by
  have hl : l ∈ g.A := List.mem_of_getElem? hA
  have sn : Same (hide H (Hid g)) (hide (upd H l (.lst ys)) (Hid g)) := hide_sub fun a x hn h => ⟨hn, by rw [upd_ne (fun e => hn (.inl (.inr (by rw [e]; exact hl))))]; exact h⟩
  have live : ∀ a, H a ≠ none → upd H l (.lst ys) a ≠ none := fun a h => by
    by_cases e : a = l
    · rw [e, upd_same]; exact fun z => by cases z
    · rw [upd_ne e]; exact h
  refine ⟨⟨⟨[], by simp, by simp⟩, live⟩, ⟨fun a x h hn => ?_, fun a z => live a (S.zl a z), fun a ha => live a (S.al a ha), ⟨S.mem.nd, by simp [S.mem.len], fun j a mo z1 z2 => ?_⟩, S.oinj, S.ofr, S.len, fun j d z1 => ?_, fun j fs z1 => ?_⟩, sn⟩
  · rw [upd_ne (fun e => hn (by rw [e]; exact hl))]
    exact S.base a x h hn
  · by_cases ej : j = m
    · subst ej
      have z1 : g.A[j]? = some a := z1
      rw [hA] at z1
      cases z1
      have z2 : (g.C.set j (.lst es))[j]? = some mo := z2
      rw [List.getElem?_set_self (by rw [S.mem.len]; exact (List.getElem?_eq_some_iff.mp hA).1)] at z2
      cases z2
      exact ⟨ys, upd_same, t.mono (Pre.refl _) sn⟩
    · have z2 : (g.C.set m (.lst es))[j]? = some mo := z2
      rw [List.getElem?_set_ne (fun z => ej z.symm)] at z2
      have q := S.mem.at_ j a mo z1 z2
      have ne : a ≠ l := fun e => by
        subst e
        obtain ⟨y1, e1⟩ := List.getElem?_eq_some_iff.mp (show g.A[j]? = some a from z1)
        obtain ⟨y2, e2⟩ := List.getElem?_eq_some_iff.mp hA
        exact ej ((List.getElem_inj S.mem.nd).mp (e1.trans e2.symm))
      cases mo with
      | lst fs =>
        obtain ⟨zs, r1, r2⟩ := q
        exact ⟨zs, by rw [upd_ne ne]; exact r1, r2.mono (Pre.refl _) sn⟩
  · obtain ⟨v, r1, r2⟩ := S.im j d z1
    exact ⟨v, r1, r2.mono (Pre.refl _) sn⟩
  · obtain ⟨r1, zs, r2, r3⟩ := S.ow j fs z1
    refine ⟨r1, zs, ?_, r3.mono (Pre.refl _) sn⟩
    rw [upd_ne (fun e => (S.ofr j fs z1).2.2 (by rw [e]; exact hl))]
    exact r2
def sSetM (i : Nat) (h f : EF) : SF := fun ρ C => match f ρ C with
  | some (d, C1) => match ρ[i]? with
    | some (.im (.mu m)) => match h ρ C1 with
      | some (.int k, C2) => match C2[m]? with
        | some (.lst ds) => match ixN ds.length k with
          | some j => some (.nx ρ, C2.set m (.lst (ds.set j d)))
          | none => none
        | _ => none
      | _ => none
    | _ => none
  | none => none
theorem sSetM_some {h f : EF} {ρ : Rho} {C : Mem} {r : Out × Mem} (e : sSetM i h f ρ C = some r) : ∃ d C1 m k C2 ds j, f ρ C = some (d, C1) ∧ ρ[i]? = some (.im (.mu m)) ∧ h ρ C1 = some (.int k, C2) ∧ C2[m]? = some (.lst ds) ∧ ixN ds.length k = some j ∧ r = (.nx ρ, C2.set m (.lst (ds.set j d))) := by
  unfold sSetM at e
  cases q : f ρ C with
  | none => rw [q] at e; cases e -- ht
  | some p =>
    obtain ⟨d, C1⟩ := p
    rw [q] at e
    dsimp only at e
    cases q1 : ρ[i]? with
    | none => rw [q1] at e; cases e
    | some s =>
      rw [q1] at e
      cases s with
      | im x =>
        cases x with
        | mu m =>
          dsimp only at e
          cases q2 : h ρ C1 with
          | none => rw [q2] at e; cases e
          | some p2 =>
            obtain ⟨y, C2⟩ := p2
            rw [q2] at e
            cases y with
            | int k =>
              dsimp only at e
              cases q3 : C2[m]? with
              | none => rw [q3] at e; cases e
              | some mo =>
                rw [q3] at e
                cases mo with
                | lst ds =>
                  dsimp only at e
                  cases q4 : ixN ds.length k with
                  | none => rw [q4] at e; cases e
                  | some j => rw [q4] at e; cases e; exact ⟨d, C1, m, k, C2, ds, j, rfl, rfl, q2, q3, q4, rfl⟩
            | _ => cases e
        | _ => cases e
      | no => cases e
      | ow _ => cases e
theorem s_setM {f h : EF} {tn : Nat} (hS : PS X st (tAsg (tV X.K f) (gSub (tVar i) (tV X.K h) rSetL))) : PS X st (sV X.K (sSetM i h f)) := PS.cq hS fun E σ H ⟨g, out, C', S, hf, q⟩ => by
  obtain ⟨d, C1, m, k, C2, ds, j, q1, q2, q3, q4, q5, e⟩ := sSetM_some hf
  cases e
  refine ⟨g, d, C1, S, q1, fun v H1 A1 g1 S1 d1 => ?_⟩
  obtain ⟨u, h1, h2⟩ := S1.im i _ q2
  refine ⟨u, h1, { g with A := A1, C := C1 }, _, C2, S1, q3, fun w H2 A2 g2 S2 dw => ?_⟩
  cases dw
  cases h2 with
  | @mu l _ hA =>
    have hA2 : A2[m]? = some l := g2.pre.get hA
    obtain ⟨xs, r1, r2⟩ := S2.mu_at (g := { g with A := A2, C := C2 }) hA2 q4
    have d2 := d1.mono g2.pre (g2.seenG (g := { g with A := A1, C := C1 }) (C' := C2))
    refine ⟨l, xs, k, j, rfl, rfl, r1, by rw [r2.length]; exact q5, ?_⟩
    exact q _ _ A2 g.o ((Post.grow (g1.trans g2) S2).trans (S2.muUpd (g := { g with A := A2, C := C2 }) hA2 (r2.set d2 j)))
/-! ### tuples put together -/
def kCatT (x y : D) : Option D := match x, y with
  | .tup a, .tup b => if a ≠ [] ∧ a.length + b.length ≤ 1000 then some (.tup (a ++ b)) else none
  | _, _ => none
theorem DnAll.ne {K : PySem.W.Frag} {A : List Addr} {H : Hp} {vs : List V} {ds : List D} (h : DnAll K A H vs ds) (n : ds ≠ []) : vs ≠ [] := by
  cases h with
  | nil => exact absurd rfl n
  | cons => exact fun z => by cases z
theorem v_catT (ha : PE X a (tV X.K f)) (hb : PE X b (tV X.K h)) : PE X (.BinOp a .Add b pos) (tV X.K (e2 kCatT f h)) := PE.cq (pe_op op_catT ha hb) fun σ H Q ⟨g, d, C', S, hf, q⟩ => by
  obtain ⟨x, y, C1, q1, q2, q3⟩ := e2_some hf
  refine row2 S q1 q2 fun v w H' A' gr S' dv dw => ?_
  cases dv with
  | @tup l xs es s t =>
    cases dw with
    | @tup l2 ys fs s2 t2 =>
      unfold kCatT at q3
      dsimp only at q3
      by_cases hc : es ≠ [] ∧ es.length + fs.length ≤ 1000
      · rw [if_pos hc] at q3
        cases q3
        refine ⟨l, l2, xs, ys, rfl, rfl, sqT_mono hide_same s, sqT_mono hide_same s2, t.ne hc.1, Nat.le_of_lt (small1000 (by rw [t.length, t2.length]; exact hc.2)), fun hy => ?_, fun hy p hp => ?_⟩
        · subst hy
          cases t2
          rw [List.append_nil] at q
          exact q _ H' A' gr S' (.tup s t)
        · obtain ⟨n1, n2, n3⟩ := new_tup S' hp (t.append t2)
          exact q _ _ A' (gr.trans n3) n1 n2
      · rw [if_neg hc] at q3; cases q3
    | _ => cases q3
  | _ => cases q3
/-! ### isinstance of one built-in class -/
def isiT (T : String) : D → Option Bool
  | .non => some (T == "NoneType")
  | .bl _ => some (T == "bool" || T == "int")
  | .int _ => some (T == "int")
  | .str _ => some (T == "str")
  | .lst _ => some (T == "list")
  | .tup _ => some (T == "tuple")
  | .mu _ => none
def kIsi (T : String) (d : D) : Option D := match isiT T d with
  | some b => if T = "list" ∨ T = "tuple" ∨ T = "int" ∨ T = "bool" ∨ T = "str" then some (.bl b) else none
  | none => none
theorem kit_tab (K : PySem.W.Frag) (d T : String) (hd : d = "NoneType" ∨ d = "bool" ∨ d = "int" ∨ d = "str" ∨ d = "list" ∨ d = "tuple") (hT : T = "list" ∨ T = "tuple" ∨ T = "int" ∨ T = "bool" ∨ T = "str") :
    PySem.W.kitOne K (.type d) (.type T) = some (T == d || (d == "bool" && T == "int")) := by
  rcases hd with rfl | rfl | rfl | rfl | rfl | rfl <;> rcases hT with rfl | rfl | rfl | rfl | rfl <;> (with_unfolding_all rfl)
theorem Dn.tyx {K : PySem.W.Frag} {A : List Addr} {H0 H : Hp} {v : V} {x : D} {T : String} {b : Bool} (sm : Same H0 H) (h : Dn K A H0 v x) (e : isiT T x = some b) :
    ∃ d, (d = "NoneType" ∨ d = "bool" ∨ d = "int" ∨ d = "str" ∨ d = "list" ∨ d = "tuple") ∧ TyX K H v (.type d) ∧ (T == d || (d == "bool" && T == "int")) = b := by
  cases h with
  | non => cases e; exact ⟨"NoneType", .inl rfl, .base .non, by simp⟩
  | bl => cases e; exact ⟨"bool", .inr (.inl rfl), .base (.bl _), by simp⟩
  | int => cases e; exact ⟨"int", .inr (.inr (.inl rfl)), .base (.int _), by simp⟩
  | str => cases e; exact ⟨"str", .inr (.inr (.inr (.inl rfl))), .base (.str _), by simp⟩
  | lst s => cases e; exact ⟨"list", .inr (.inr (.inr (.inr (.inl rfl)))), .base (.lst (sm _ _ s)), by simp⟩
  | tup s =>
    cases e
    refine ⟨"tuple", .inr (.inr (.inr (.inr (.inr rfl)))), ?_, by simp⟩
    rcases sqT_mono sm s with (s | ⟨o, s⟩) | ⟨o, its, n, s, c, _⟩
    · exact .base (.tup s)
    · exact .fTuple s
    · exact .kTuple s c
  | mu => cases e
theorem v_isi {p p2 pos : Pos} {e : Expr} {T : String} (hg : Gl X "isinstance") (hm : X.mg "isinstance" = none) {x : Str} (hgT : Gl X x) (hmT : X.mg x = none) (he : PE X e (tW X.K f)) (hv : bootBuiltins x = some (.type T) := by decide +kernel) (hn : x ≠ "__name__" := by decide) (hdb : (x == ("__debug__" : Str)) = false := by decide)
    (hs : starEach [e, .Name x p2] X.env = (false, eval e X.env) :: starEach [.Name x p2] X.env := by rfl) (hs2 : starEach [.Name x p2] X.env = (false, eval (.Name x p2) X.env) :: starEach [] X.env := by rfl) (hpl : (backTo pos (starEach [.Name x p2] X.env)).any (·.1) = false := by rfl) :
    PE X (.Call (.Name "isinstance" p) [e, .Name x p2] [] pos) (tV X.K (e1 (kIsi T) f)) :=
  PE.cq (pe_callB call_isi hg hm boot_isinstance (pa_cons he (pa_cons (pe_bltn (v := .ty T) hgT hmT hv rfl hn hdb) pa_nil hs2) hs) (by decide) (by decide) hs hpl) fun σ H Q ⟨g, d, C', S, hf, q⟩ => by
    obtain ⟨y, q1, q2⟩ := e1_some hf
    unfold kIsi at q2
    cases q3 : isiT T y with
    | none => rw [q3] at q2; cases q2
    | some b =>
      rw [q3] at q2
      dsimp only at q2
      by_cases hT : T = "list" ∨ T = "tuple" ∨ T = "int" ∨ T = "bool" ∨ T = "str"
      · rw [if_pos hT] at q2
        cases q2
        refine ⟨g, y, C', S, q1, fun v H' A' gr S' dn => ?_⟩
        obtain ⟨d, hd, ty, eb⟩ := dn.tyx hide_same q3
        exact ⟨v, .ty T, _, _, b, rfl, .ty T, ty, by rw [kit_tab X.K d T hd hT, eb], q _ H' A' gr S' (.bl b)⟩
      · rw [if_neg hT] at q2; cases q2
/-- a call by keywords alone, in the parameters' order -/
structure KwAll (K : PySem.W.Frag) (fd : FuncData) (ps ks : List Str) : Prop where
  to : ∀ (s : Shared) (ws : List Value), K.In s.heap → ws.length = ps.length → BindsTo s fd ⟨[], ks.zip ws⟩ (ps.zip ws)
theorem v_callKw {k n : Nat} {fa : Addr} {fd : FuncData} {ps ks : List Str} {F : FF} {x : Str} {p pos : Pos} {kws : List Keyword} {fs : LF} {t : TA} (G : FnOk X.prog X.w X.K X.mg X.base CX0 k fa fd ps (spD X.K n F)) (hr : Room k X.A) (hg : Gl X x) (hm : X.mg x = some (.ref fa)) (hk : PySem.W.keepIn X.K (.ref fa) = true) (hb : KwAll X.K fd ps ks)
    (hkw : PK X kws t) (ht : ∀ σ H Q, tA X.K fs σ H Q → t σ H Q) (hall : (backToKw pos (keywordEach kws X.env)).all (·.1.isSome) = true := by rfl) (hks : (backToKw pos (keywordEach kws X.env)).filterMap (·.1) = ks := by rfl) (hdb : (x == ("__debug__" : Str)) = false := by decide)
    (hpl : ((backTo pos (starEach [] X.env)).any (·.1) || (backToKw pos (keywordEach kws X.env)).any (·.1.isNone)) = false := by rfl) : -- ht
    PE X (.Call (.Name x p) [] kws pos) (tV X.K (eCallN n F fs)) := by
  refine ⟨fun pins s σ H Q I h => ?_⟩ -- ht
  have h2 := call_cq (n := n) (F := F) (fs := fs) (t := t) h fun Q' q => ht _ _ _ q
  refine wpAny_Call_Name_kw (ld_glob I hg hm ?_ hdb) -- ht
  refine PySem.W.callWith_KW0 (h₀ := X.base) I.ok.mod.kin hk hall (thn (hkw.run pos pins s σ H _ I h2) fun ws s2 ⟨zs, H2, I2, rz, q2⟩ => ⟨I2.kIn, ?_⟩) hpl
  rw [hks]
  have q2 : spD X.K n F (zs ++ []) H2 Q E0 := q2
  rw [List.append_nil] at q2
  have hl : ws.length = ps.length := by rw [← rz.length]; exact G.len _ _ _ _ q2
  refine wpAny_call (codeAny_mono (G.run X.A X.stack s2 H2 ⟨[], ks.zip ws⟩ ws zs Q E0 hr I2.env0 (hb.to s2 ws I2.kIn hl) rz q2) fun r s' hq => ?_)
  cases r with
  | error e => exact hq.elim
  | ok fl =>
    cases fl with
    | ret u => exact I2.after hq
    | next => exact False.elim hq
    | brk => exact False.elim hq
    | cont => exact False.elim hq
/-- one keyword -/
theorem k_one {nm : Option Str} {e : Expr} {kpos : Pos} (he : PE X e (tV X.K f)) : ∃ t, PK X [⟨nm, e, kpos⟩] t ∧ ∀ σ H Q, tA X.K (aCons f aNil) σ H Q → t σ H Q := ⟨_, pk_cons he pk_nil, fun σ H Q ⟨g, ds, C', S, hf, q⟩ => by
  obtain ⟨d, ds', C1, h1, h2, rfl⟩ := aCons_some hf
  cases h2
  exact ⟨g, d, _, S, h1, fun v H1 A1 g1 S1 d1 => q [v] H1 A1 g1 S1 (.cons d1 .nil)⟩⟩
end
end Ht


set_option maxRecDepth 100000
set_option maxHeartbeats 1000000 -- ht
/-! The value layer: list(zip(a, b)). -/
namespace Ht
open PySem PySem.Spec PyProof.Rows L2 -- ht

/-- a zip over the lists a and b, at turn i; S: the list that is filled -/
structure ZipSt (h : Heap) (z TI TO i1 i2 a b S : Addr) (i : Nat) : Prop where
  ti : IsPair h TI (.ref i1) (.ref i2)
  it1 : h.IsListIter i1 a i
  it2 : h.IsListIter i2 b i
  to : ∃ o, h.get? TO = some o
  st : (IsZip h z TI TO .none ∧ ∃ x y, IsPair h TO x y) ∨ ∃ (T : Addr) (f : Bool) (o : Obj), IsZipHeld h z TI TO T f ∧ h.get? T = some o ∧ T ≠ S ∧ T ∉ [z, TI, TO, i1, i2]
section
variable {X : Cx} {pins : List (Addr × Obj)} {σ : L2.St} {z TI TO i1 i2 a b S : Addr}
theorem zip_hint {s : Shared} {A : Around} {Q : Bool → Shared → Prop} {E : Value → Shared → Prop} {M : Model} (ty : s.TypeIs (.ref z) "zip") (h : Q true s) : wpAny M A (Builtin.List.listLengthHint (.ref z)) Q E s := by
  have n1 : typeLookup (.type "zip") "__len__" = pure none := am_miss_of_fast (by decide +kernel)
  have n2 : typeLookup (.type "zip") "__length_hint__" = pure none := am_miss_of_fast (by decide +kernel)
  unfold Builtin.List.listLengthHint -- ht
  refine wpAny_bind (wpAny_specialOf ty n1 ?_)
  refine wpAny_ite_split (fun q => absurd q (by decide)) fun _ => ?_
  refine wpAny_ite_split (fun q => absurd q (by decide)) fun _ => ?_
  exact wpAny_bind (wpAny_specialOf ty n2 (wpAny_pure h))
/-- the walk of one turn of the zip -/
theorem zip_turn (hc : X.calm = true) (D : ZipApart z TI TO i1 i2 a b) {A : Around} (hA : A.handled = none) {i : Nat} {s : Shared} {H : Hp} {E : Value → Shared → Prop} {xs ys : List V} {x y : V} (I : Inv X pins σ H s) (hf : ∀ c ∈ [z, TI, TO, i1, i2], FpOk X pins H c) (hS : ∃ o, H S = some o)
    (st : ZipSt s.heap z TI TO i1 i2 a b S i) (la : SqL X.K H a xs) (lb : SqL X.K H b ys) (hx : xs[i]? = some x) (hy : ys[i]? = some y) {Q : Option Value → Shared → Prop}
    (q : ∀ T s', H T = none → T ≠ S → T ∉ [z, TI, TO, i1, i2] → Inv X pins σ (upd H T (.tup [x, y])) s' → ZipSt s'.heap z TI TO i1 i2 a b S (i + 1) → (∃ h', s' = { s with heap := h' }) → Q (some (.ref T)) s') :
    wpAny (model X.prog X.w) A (pyNext (.ref z)) Q E s := by
  obtain ⟨hTI, h1, h2, ⟨oTO, hto⟩, st⟩ := st
  obtain ⟨oS, hS⟩ := hS
  obtain ⟨its, rv, p, _⟩ := I.list la
  obtain ⟨its2, rv2, p2, _⟩ := I.list lb
  obtain ⟨u, hu, ru⟩ := rv.get hx -- ht
  obtain ⟨u2, hu2, ru2⟩ := rv2.get hy -- ht
  have fr : ∀ {c : Addr} {o : Obj}, s.heap.get? c = some o → s.heap.objs.size ≠ c := fun e => Nat.ne_of_gt (Heap.lt_size e)
  have hSl : S < s.heap.objs.size := by
    rcases Nat.lt_or_ge S s.heap.objs.size with l | l
    · exact l
    · rw [I.hok.fresh l] at hS; cases hS
  have nTS : s.heap.objs.size ≠ S := Nat.ne_of_gt hSl
  have li1 : s.heap.objs.size ≠ i1 := by obtain ⟨_, e, _⟩ := h1; exact fr e
  have li2 : s.heap.objs.size ≠ i2 := by obtain ⟨_, e, _⟩ := h2; exact fr e
  have liz : s.heap.objs.size ≠ z := by
    rcases st with ⟨hz, _⟩ | ⟨_, _, _, hz, _⟩
    · exact fr hz
    · exact fr hz
  have out : s.heap.objs.size ∉ [z, TI, TO, i1, i2] := by
    simp only [List.mem_cons, List.not_mem_nil, or_false]
    rintro (e | e | e | e | e)
    · exact liz e
    · exact fr hTI e
    · exact fr hto e
    · exact li1 e
    · exact li2 e
  have fin : ∀ h' : Heap, (∀ c o, c ∉ [z, TI, TO, i1, i2] → s.heap.get? c = some o → h'.get? c = some o) → IsPair h' s.heap.objs.size u u2 → ZipSt h' z TI TO i1 i2 a b S (i + 1) → Q (some (.ref s.heap.objs.size)) { s with heap := h' } := fun h' k hT st' =>
    q _ _ (I.hok.fresh (Nat.le_refl _)) nTS out (I.turnedNew (t' := s.toks) k hf (Nat.le_refl _) ⟨by show 2 ≤ sizeLine; decide, [u, u2], .cons ru (.cons ru2 .nil), ⟨_, hT, rfl, _, rfl⟩⟩) st' ⟨h', rfl⟩
  rcases st with ⟨hz, x0, y0, hTO⟩ | ⟨T, f, oT, hz, hT, hTS, hTm⟩
  · refine wpAny_pyNext_zip_item (x := u) (y := u2) D hz hTI hTO h1 h2 p.isList p2.isList (by simpa using hu) (by simpa using hu2) fun h' z' TO' h1' h2' hT hsz hk => ?_
    exact fin h' (fun c o hb q' => hk c o (fun e => hb (by simp [e])) (fun e => hb (by simp [e])) (fun e => hb (by simp [e])) (fun e => hb (by simp [e])) q') hT ⟨hk _ _ D.TIz D.TITO D.TIi1 D.TIi2 hTI, h1', h2', ⟨_, TO'⟩, .inr ⟨_, false, _, z', hT, nTS, out⟩⟩
  · refine wpAny_pyNext_zip_item_held (x := u) (y := u2) D hz hT hTI h1 h2 p.isList p2.isList (by simpa using hu) (by simpa using hu2) fun h' z' h1' h2' hN hsz hk => ?_
    exact fin h' (fun c o hb q' => hk c o (fun e => hb (by simp [e])) (fun e => hb (by simp [e])) (fun e => hb (by simp [e])) q') hN ⟨hk _ _ D.TIz D.TIi1 D.TIi2 hTI, h1', h2', ⟨_, hk _ _ D.TOz D.TOi1 D.TOi2 hto⟩, .inr ⟨T, true, oT, z', hk _ _ (fun e => hTm (by simp [e])) (fun e => hTm (by simp [e])) (fun e => hTm (by simp [e])) hT, hTS, hTm⟩⟩
theorem zip_stop (hc : X.calm = true) (D : ZipApart z TI TO i1 i2 a b) {A : Around} (hA : A.handled = none) {i : Nat} {s : Shared} {H : Hp} {E : Value → Shared → Prop} {xs ys : List V} (I : Inv X pins σ H s) (hf : ∀ c ∈ [z, TI, TO, i1, i2], FpOk X pins H c)
    (st : ZipSt s.heap z TI TO i1 i2 a b S i) (la : SqL X.K H a xs) (lb : SqL X.K H b ys) (hx : xs.length ≤ i ∨ ys.length ≤ i) {Q : Option Value → Shared → Prop}
    (q : ∀ s', Inv X pins σ H s' → (∃ h', s' = { s with heap := h' }) → Q none s') : wpAny (model X.prog X.w) A (pyNext (.ref z)) Q E s := by
  obtain ⟨hTI, h1, h2, ⟨oTO, hto⟩, st⟩ := st
  obtain ⟨its, rv, p, _⟩ := I.list la
  obtain ⟨its2, rv2, p2, _⟩ := I.list lb
  have l1 := rv.length
  have l2 := rv2.length
  have he : its.toArray[i]? = none ∨ its2.toArray[i]? = none := by -- ht
    rcases hx with q | q
    · exact .inl (by simp; omega)
    · exact .inr (by simp; omega)
  have fin : ∀ h' : Heap, (∀ c o, c ∉ [z, TI, TO, i1, i2] → s.heap.get? c = some o → h'.get? c = some o) → Q none { s with heap := h' } := fun h' k => q _ (I.turnedL (t' := s.toks) k hf) ⟨h', rfl⟩
  rcases st with ⟨hz, x0, y0, hTO⟩ | ⟨T, f, oT, hz, hT, hTS, hTm⟩
  · exact wpAny_pyNext_zip_end hA D hz hTI hTO h1 h2 p.isList p2.isList he fun h' hk => fin h' fun c o hb q' => hk c o (fun e => hb (by simp [e])) (fun e => hb (by simp [e])) (fun e => hb (by simp [e])) (fun e => hb (by simp [e])) q'
  · exact wpAny_pyNext_zip_end_held hA D hz hT hTI h1 h2 p.isList p2.isList he fun h' hk => fin h' fun c o hb q' => hk c o (fun e => hb (by simp [e])) (fun e => hb (by simp [e])) (fun e => hb (by simp [e])) q'
/-- what is asked of the filled list between two turns -/
def ZW (X : Cx) (a b S : Addr) (n : Nat) (W : Nat → Hp → Prop) : Prop := ∀ i H, W i H → i ≤ n ∧ n ≤ 100000 ∧ ∃ (refs xs ys : List V), H S = some (.lst refs) ∧ refs.length = i ∧ SqL X.K H a xs ∧ SqL X.K H b ys ∧ min xs.length ys.length = n ∧
  ∀ x y, xs[i]? = some x → ys[i]? = some y → ∀ T, H T = none → W (i + 1) (upd (upd H T (.tup [x, y])) S (.lst (refs ++ [.ref T])))
theorem zip_loop (hc : X.calm = true) (D : ZipApart z TI TO i1 i2 a b) {n : Nat} {W : Nat → Hp → Prop} (hW : ZW X a b S n W) {res : Value} {R : Result → Shared → Prop} (hR : ∀ H s, W n H → Inv X pins σ H s → R (.ok (.ret res)) s) :
    ∀ (k i : Nat) (A : Around), A.handled = none → ∀ (H : Hp) (s : Shared), n - i = k → Inv X pins σ H s → W i H → ZipSt s.heap z TI TO i1 i2 a b S i → (∀ c ∈ [z, TI, TO, i1, i2], FpOk X pins H c) →
      codeAny (model X.prog X.w) A (.builtin "list.extend.loop" ⟨[.ref S, .ref z, res], []⟩) R s
  | k, i, A, hA, H, s, hk, I, w, st, hf => by
    obtain ⟨hi, hn, refs, xs, ys, hS, hl, la, lb, hmin, step⟩ := hW i H w
    refine codeAny_builtin F.entry_extend_loop ?_ -- ht
    rw [Around.under_plainId F.plain_extend_loop]
    show wpAny _ A.in1 (pyNext (.ref z) >>= _) _ _ _
    cases k with
    | zero =>
      refine wpAny_bind (zip_stop (A := A.in1) (S := S) hc D hA I hf st la lb (by omega) fun s' I' _ => ?_)
      have ei : i = n := by omega
      exact wpAny_pure (hR H s' (ei ▸ w) I')
    | succ k =>
      have lx : i < xs.length := by omega
      have ly : i < ys.length := by omega
      have hx : xs[i]? = some xs[i] := List.getElem?_eq_getElem lx
      have hy : ys[i]? = some ys[i] := List.getElem?_eq_getElem ly
      refine wpAny_bind (zip_turn (A := A.in1) hc D hA I hf ⟨_, hS⟩ st la lb hx hy fun T s' hT hTS hTm I' st' _ => ?_)
      have hS' : upd H T (.tup [xs[i], ys[i]]) S = some (.lst refs) := by rw [upd_ne (Ne.symm hTS)]; exact hS
      obtain ⟨hz, its, m, rv, hg⟩ := I'.hok S _ hS'
      have lv := rv.length
      have sz : its.toArray.size ≤ 100000 := by simp; omega
      have line : 100001 < sizeLine := by decide
      refine wpAny_bind (wpAny_updateSeq (f := (·.push (.ref T))) hg rfl (wpAny_pure ⟨plainId_quiet F.plain_extend_loop _, ?_⟩) (by omega) (by show (its.toArray.push _).size ≤ _; rw [Array.size_push]; omega))
      have up : ∀ c o, c ≠ S → s'.heap.get? c = some o → (s'.heap.update S (Obj.mapSeq (·.push (.ref T)))).get? c = some o := fun c o hc e => by rw [Heap.get?_update_other _ _ (Ne.symm hc)]; exact e
      have self := Heap.get?_update_self (Obj.mapSeq (·.push (Value.ref T))) hg rfl
      have I2 := I'.write (t' := s'.toks) (x := S) (o := .lst (refs ++ [.ref T])) (by rw [hS']; trivial) (.inl rfl) up ⟨_, self⟩ ⟨by rw [List.length_append]; simp; omega, its ++ [Value.ref T], _, rv.append (.cons (show RelV (.ref T) (.ref T) from rfl) .nil), by rw [self]; simp [Obj.mapSeq]; rfl⟩
      have neS : ∀ c ∈ [z, TI, TO, i1, i2], c ≠ S := fun c hc e => by have q := (hf c hc).1; rw [e, hS] at q; cases q
      have st2 : ZipSt (s'.heap.update S (Obj.mapSeq (·.push (.ref T)))) z TI TO i1 i2 a b S (i + 1) := by
        obtain ⟨q1, q2, q3, ⟨o4, q4⟩, q5⟩ := st'
        refine ⟨up _ _ (neS _ (by simp)) q1, q2.at fun o e => up _ o (neS _ (by simp)) e, q3.at fun o e => up _ o (neS _ (by simp)) e, ⟨o4, up _ _ (neS _ (by simp)) q4⟩, ?_⟩
        rcases q5 with ⟨w1, x0, y0, w2⟩ | ⟨T', f, o, w1, w2, w3, w4⟩
        · exact .inl ⟨up _ _ (neS _ (by simp)) w1, x0, y0, up _ _ (neS _ (by simp)) w2⟩
        · exact .inr ⟨T', f, o, up _ _ (neS _ (by simp)) w1, up _ _ w3 w2, w3, w4⟩
      exact zip_loop hc D hW hR k (i + 1) A hA _ _ (by omega) I2 (step _ _ hx hy T hT) st2 fun c hcm => by
        obtain ⟨f0, f1⟩ := hf c hcm
        exact ⟨by rw [upd_ne (neS c hcm), upd_ne (fun e => hTm (by rw [← e]; exact hcm))]; exact f0, f1⟩

def tLZ (K : PySem.W.Frag) (ta : TA) : TE := fun σ H Q => ta σ H fun vs H1 => ∃ (a b : Addr) (xs ys : List V), vs = [.ref a, .ref b] ∧ SqL K H1 a xs ∧ SqL K H1 b ys ∧
  ∀ S, H1 S = none → ∃ W : Nat → Hp → Prop, (∀ X : Cx, X.K = K → ZW X a b S (min xs.length ys.length) W) ∧ W 0 (upd H1 S (.lst [])) ∧ ∀ H2, W (min xs.length ys.length) H2 → Q (.ref S) H2
theorem pe_listZip {e e2 : Expr} {ta : TA} {p p2 pos pos2 : Pos} (hc : X.calm = true) (hgl : Gl X "list") (hml : X.mg "list" = none) (hgz : Gl X "zip") (hmz : X.mg "zip" = none) (ha : PA X [e, e2] ta)
    (hs : starEach [e, e2] X.env = (false, eval e X.env) :: starEach [e2] X.env := by rfl) (hpl : (backTo pos2 (starEach [e2] X.env)).any (·.1) = false := by rfl)
    (hs1 : starEach [Expr.Call (.Name "zip" p2) [e, e2] [] pos2] X.env = (false, eval (Expr.Call (.Name "zip" p2) [e, e2] [] pos2) X.env) :: starEach [] X.env := by rfl) (hs0 : starEach [] X.env = [] := by rfl) :
    PE X (.Call (.Name "list" p) [.Call (.Name "zip" p2) [e, e2] [] pos2] [] pos) (tLZ X.K ta) := by
  refine ⟨fun pins s σ H Q I h => ?_⟩ -- ht
  refine Call_ (ld_blt I hgl hml PyProof.Rows.boot_list (PyProof.Rows.callWith_type1 ?_ hs1 (by rw [hs0]; rfl)))
  rw [hs1, hs0]
  refine Calls.spliced_cons (Call_ (ld_blt I hgz hmz PyProof.Rows.boot_zip (PyProof.Rows.callWith_type1 (thn (ha.run pos2 pins s σ H _ I h) fun us s1 ⟨vs, H1, I1, r1, q1⟩ => ?_) hs hpl)))
  obtain ⟨a, b, xs, ys, ex, la, lb, q⟩ := q1
  subst ex
  cases r1 with
  | cons r rr =>
    cases rr with
    | cons r' rr =>
      cases rr
      cases r
      cases r'
      obtain ⟨its, rv, p1, _⟩ := I1.list la
      obtain ⟨its2, rv2, p3, _⟩ := I1.list lb
      refine call_zip_2 p1.isList p3.isList fun h' hz hTI hTO h1 h2 hsz hk => Calls.spliced_nil ?_
      have I2 : Inv X pins σ H1 { s1 with heap := h' } := I1.kept (t' := s1.toks) hk -- ht
      have D := PySem.W.ktu_apart s1.heap.objs.size a b p1.lt p3.lt
      refine callType_codes (Q₁ := fun obj s3 => obj = .ref h'.objs.size ∧ s3 = { s1 with heap := h'.push { cls := .type "list", data := .seq #[] } }) F.called_list (F.typeCall_list_1 _) F.entry_list_init (code_list_new _ ⟨rfl, rfl⟩) fun obj s3 h3 => ?_
      obtain ⟨rfl, rfl⟩ := h3
      have nS : ∀ {c : Addr} {o : Obj}, h'.get? c = some o → c ≠ h'.objs.size := fun e => Nat.ne_of_lt (Heap.lt_size e)
      have g0 : (h'.push { cls := .type "list", data := .seq #[] }).get? h'.objs.size = some { cls := .type "list", data := .seq #[] } := Heap.get?_push_size _ rfl
      obtain ⟨W, hW, w0, wn⟩ := q h'.objs.size (I2.hok.fresh (Nat.le_refl _))
      have fin : ∀ (h4 : Heap) (c4 : Nat), (∀ c o, c ≠ h'.objs.size → (h'.push { cls := .type "list", data := .seq #[] }).get? c = some o → h4.get? c = some o) → h4.get? h'.objs.size = some { cls := .type "list", data := .seq #[] c4 } →
          codeAny (model X.prog X.w) X.A.in1 (.builtin "list.extend.loop" ⟨[.ref h'.objs.size, .ref (s1.heap.objs.size + 4), .none], []⟩) (wants (fun r s5 => r = .none ∧ EP X pins σ Q (.ref h'.objs.size) s5) X.xe) { s1 with heap := h4 } := fun h4 c4 k4 g4 => by
        have up : ∀ {c : Addr} {o : Obj}, h'.get? c = some o → h4.get? c = some o := fun {c o} e => k4 c o (nS e) (Heap.get?_push_of_some _ e)
        have I4 : Inv X pins σ (upd H1 h'.objs.size (.lst [])) { s1 with heap := h4 } := I2.laid (t' := s1.toks) (fun c o e => up e) (Nat.le_refl _) ⟨Nat.zero_le _, [], c4, .nil, g4⟩
        refine zip_loop hc D (hW X rfl) (fun H5 s5 w5 I5 => ?_) _ 0 X.A.in1 (I.ok.hd hc) _ _ rfl I4 w0 ⟨up hTI, h1.at fun o e => up e, h2.at fun o e => up e, ⟨_, up hTO⟩, .inl ⟨up hz, _, _, up hTO⟩⟩ fun c hcm => ?_
        · exact ⟨rfl, .ref h'.objs.size, H5, I5, rfl, wn H5 w5⟩
        · have hle : s1.heap.objs.size ≤ c := by
            simp only [List.mem_cons, List.not_mem_nil, or_false] at hcm
            have gg : ∀ (c s : Nat), c = s + 4 ∨ c = s + 2 ∨ c = s + 3 ∨ c = s ∨ c = s + 1 → s ≤ c := fun c s z => by omega
            exact gg c s1.heap.objs.size hcm
          have hlt : c ≠ h'.objs.size := by
            simp only [List.mem_cons, List.not_mem_nil, or_false] at hcm
            rcases hcm with z | z | z | z | z
            · rw [z]; exact nS hz
            · rw [z]; exact nS hTI
            · rw [z]; exact nS hTO
            · obtain ⟨_, e, _⟩ := h1; rw [z]; exact nS e
            · obtain ⟨_, e, _⟩ := h2; rw [z]; exact nS e
          exact I1.fpOk hle (by rw [upd_ne hlt]; exact I1.hok.fresh hle)
      refine ⟨⟨_, g0, rfl⟩, F.args_list_init_2 _ _, ?_⟩
      show wpAny _ _ (Builtin.List.listItems (.ref h'.objs.size) >>= fun old => Builtin.List.listUpdate (.ref h'.objs.size) (fun _ => #[]) >>= fun _ => letGo old.toList.reverse >>= fun _ => Builtin.List.listExtendWith (.ref h'.objs.size) (.ref (s1.heap.objs.size + 4)) .none) _ _ _
      unfold Builtin.List.listItems
      refine wpAny_bind (wpAny_bind (wpAny_seqItems g0 rfl (wpAny_pure ?_)))
      show wpAny _ _ (updateSeq h'.objs.size (fun _ => #[]) >>= fun _ => letGo [] >>= fun _ => Builtin.List.listExtendWith (.ref h'.objs.size) (.ref (s1.heap.objs.size + 4)) .none) _ _ _
      refine wpAny_bind (wpAny_updateSeq g0 rfl (wpAny_bind (wpAny_letGo ?_)))
      have g1 := Heap.get?_update_self (Obj.mapSeq fun _ => (#[] : Array Value)) g0 rfl
      have up1 : ∀ c o, c ≠ h'.objs.size → (h'.push { cls := .type "list", data := .seq #[] }).get? c = some o → ((h'.push { cls := .type "list", data := .seq #[] }).update h'.objs.size (Obj.mapSeq fun _ => (#[] : Array Value))).get? c = some o := fun c o hcn e => by rw [Heap.get?_update_other _ _ (Ne.symm hcn)]; exact e
      have hz1 := up1 _ _ (nS hz) (Heap.get?_push_of_some _ hz)
      unfold Builtin.List.listExtendWith -- ht
      refine wpAny_bind (wpAny_typeOf (T := "zip") ⟨_, hz1, rfl⟩ ?_)
      have e1 : (Builtin.List.listSameRef (.ref h'.objs.size) (.ref (s1.heap.objs.size + 4)) || Value.type "zip" == Value.type "list" || Value.type "zip" == Value.type "tuple") = false := by
        have d1 : (Value.type "zip" == Value.type "list") = false := by decide
        have d2 : (Value.type "zip" == Value.type "tuple") = false := by decide
        rw [d1, d2]
        simp [Builtin.List.listSameRef, Ne.symm (nS hz)]
      rw [if_neg (by rw [e1]; decide)]
      refine wpAny_bind (wpAny_pyIter_zip hz1 (wpAny_bind (wpAny_holding (zip_hint ⟨_, hz1, rfl⟩ ?_))))
      refine wpAny_ite_split (fun _ => ?_) fun q => absurd rfl q
      refine wpAny_bind (wpAny_rule (wpAny_bind ?_)) -- ht
      show wpAny _ _ (updateSeq h'.objs.size (·.push .none) >>= fun _ => updateSeq h'.objs.size (·.pop)) _ _ _
      refine wpAny_bind (wpAny_updateSeq g1 rfl ?_)
      have g2 := Heap.get?_update_self (Obj.mapSeq (·.push Value.none)) g1 rfl
      refine wpAny_updateSeq g2 rfl ?_ (by decide) (by decide)
      have g3 := Heap.get?_update_self (Obj.mapSeq (·.pop)) g2 rfl
      exact wpAny_pure ⟨plainId_quiet F.plain_extend_loop _, fin _ _ (fun c o hcn e => by rw [Heap.get?_update_other _ _ (Ne.symm hcn), Heap.get?_update_other _ _ (Ne.symm hcn)]; exact up1 c o hcn e) g3⟩

def lBd (f : LF) : LF := fun ρ C => match f ρ C with
  | some (ds, C1) => if ds.length ≤ 100000 then some (ds, C1) else none
  | none => none
theorem lBd_some {f : LF} {ρ : Rho} {C C1 : Mem} {ds : List D} (h : lBd f ρ C = some (ds, C1)) : f ρ C = some (ds, C1) ∧ ds.length ≤ 100000 := by
  unfold lBd at h
  cases q : f ρ C with
  | none => rw [q] at h; cases h
  | some p =>
    obtain ⟨d, C2⟩ := p
    rw [q] at h
    dsimp only at h
    by_cases hl : d.length ≤ 100000
    · rw [if_pos hl] at h; cases h; exact ⟨rfl, hl⟩
    · rw [if_neg hl] at h; cases h
/-- between two turns, on data -/
def ZPv (K : PySem.W.Frag) (g : Gh) (σ : L2.St) (S : Addr) (zs : List D) (vs ws : List V) (a b : Addr) (H1 : Hp) (i : Nat) (H2 : Hp) : Prop :=
  i ≤ zs.length ∧ ∃ refs : List V, H2 S = some (.lst refs) ∧ refs.length = i ∧ Ds K { g with Z := fun c => g.Z c ∨ c = S } H2 σ ∧ Grow g.A g.A H1 H2 ∧
    DnAll K g.A (hide H2 (Hid { g with Z := fun c => g.Z c ∨ c = S })) refs (zs.take i)
theorem f_listZip {ea eb : Expr} {f h : EF} {p p2 pos pos2 : Pos} (hc : X.calm = true) (hgl : Gl X "list") (hml : X.mg "list" = none) (hgz : Gl X "zip") (hmz : X.mg "zip" = none) (ha : PE X ea (tV X.K f)) (hb : PE X eb (tV X.K h))
    (hs : starEach [ea, eb] X.env = (false, eval ea X.env) :: starEach [eb] X.env := by rfl) (hs2 : starEach [eb] X.env = (false, eval eb X.env) :: starEach [] X.env := by rfl) (hpl : (backTo pos2 (starEach [eb] X.env)).any (·.1) = false := by rfl)
    (hs1 : starEach [Expr.Call (.Name "zip" p2) [ea, eb] [] pos2] X.env = (false, eval (Expr.Call (.Name "zip" p2) [ea, eb] [] pos2) X.env) :: starEach [] X.env := by rfl) (hs0 : starEach [] X.env = [] := by rfl) :
    PE X (.Call (.Name "list" p) [.Call (.Name "zip" p2) [ea, eb] [] pos2] [] pos) (tF X.K (lBd (lZip f h))) := PE.cq (pe_listZip hc hgl hml hgz hmz (pa_cons ha (pa_cons hb pa_nil hs2) hs) hs hpl hs1 hs0) fun σ H Q ⟨g, ds', C', S, hf, q⟩ => by
  obtain ⟨hf, hlen⟩ := lBd_some hf
  obtain ⟨xs, ys, C1, q1, q2, rfl⟩ := lZip_some hf
  refine row2 S q1 q2 fun v w H' A' gr S' dv dw => ?_
  cases dv with
  | @lst l vs _ s t =>
    cases dw with
    | @lst l2 ws _ s2 t2 =>
      have e1 := t.length
      have e2 := t2.length
      rw [zipD_length] at hlen
      refine ⟨l, l2, vs, ws, rfl, .inl (.inl (hide_same _ _ s)), .inl (.inl (hide_same _ _ s2)), fun p hp => ?_⟩
      obtain ⟨n1, n2, n3, n4⟩ := fin_new (xs := []) (ds := []) S' hp .nil
      have hpH : H p = none := by
        cases e : H p with
        | none => rfl
        | some x => exact absurd hp (gr.step.live p (by rw [e]; exact fun z => by cases z))
      have nh : ¬ (Hid { g with A := A', C := C' } p) := fun z => by
        rcases z with (z | z) | ⟨i, es, z, e3⟩
        · exact S'.zl p z hp
        · exact S'.al p z hp
        · obtain ⟨_, xs', q4, _⟩ := S'.ow i es z
          have e3 : g.o i = p := e3
          rw [show ({ g with A := A', C := C' } : Gh).o i = p from e3, hp] at q4
          cases q4
      refine ⟨ZPv X.K { g with A := A', C := C' } σ p (zipD xs ys) vs ws l l2 H', fun Y hY i H2 W => ?_, ⟨Nat.zero_le _, [], upd_same, rfl, n1, n3, .nil⟩, fun H2 W => ?_⟩
      · obtain ⟨hi, refs, w1, w2, w3, w4, w5⟩ := W
        rw [zipD_length] at hi
        have kp : ∀ {c : Addr} {x : HO}, (hide H' (Hid { g with A := A', C := C' })) c = some x → c ≠ p ∧ H2 c = some x ∧ ¬ Hid { g with A := A', C := C', Z := fun c => g.Z c ∨ c = p } c := fun {c x} e => by
          obtain ⟨m1, m2⟩ := hide_some.mp e
          have ne : c ≠ p := ne_of_none m2 hp
          refine ⟨ne, w4.keep _ _ (fun z => m1 (.inl (.inr z))) m2, fun z => ?_⟩
          rcases z with ((z | z) | z) | z
          · exact m1 (.inl (.inl z))
          · exact ne z
          · exact m1 (.inl (.inr z))
          · exact m1 (.inr z)
        have sn : Same (hide H' (Hid { g with A := A', C := C' })) (hide H2 (Hid { g with A := A', C := C', Z := fun c => g.Z c ∨ c = p })) := fun c x e => hide_some.mpr ⟨(kp e).2.2, (kp e).2.1⟩
        refine ⟨by omega, by omega, refs, vs, ws, w1, w2, .inl (.inl (kp s).2.1), .inl (.inl (kp s2).2.1), rfl, fun x y hx hy T hT => ?_⟩
        have hTp : T ≠ p := fun e => by rw [e, w1] at hT; cases hT
        obtain ⟨dx, d1, d2⟩ := t.getV hx
        obtain ⟨dy, d3, d4⟩ := t2.getV hy
        have lx := (List.getElem?_eq_some_iff.mp d1).1
        have ly := (List.getElem?_eq_some_iff.mp d3).1
        have hz : (zipD xs ys)[i]? = some (.tup [dx, dy]) := by
          have hlt : i < (zipD xs ys).length := by rw [zipD_length]; omega
          have e := List.getElem?_eq_getElem hlt
          obtain ⟨x', y', r1, r2, r3⟩ := zipD_get xs ys i _ e
          rw [d1] at r1
          rw [d3] at r2
          cases r1
          cases r2
          rw [e, r3]
        obtain ⟨p1, p2⟩ := wk_pair w3 hT (d2.mono (Pre.refl _) sn) (d4.mono (Pre.refl _) sn)
        have w3' := w3.keep p1
        have hpA : p ∉ A' := n4
        have h0 : g.H0 p = none := by
          cases e : g.H0 p with
          | none => rfl
          | some x =>
            have := S'.base p x e hpA
            rw [hp] at this; cases this
        obtain ⟨u1, u2⟩ := w3'.under (o := .lst (refs ++ [.ref T])) (.inr rfl) hpA h0
        have hp2 : H2 p ≠ none := by rw [w1]; exact fun z => by cases z
        refine ⟨by rw [zipD_length]; omega, refs ++ [.ref T], upd_same, by simp [w2], u1, ?_, ?_⟩
        · refine ⟨⟨[], by simp, by simp⟩, fun c x hA e => ?_, fun c hA => ?_⟩
          · rw [upd_ne (ne_of_none e hp)]
            exact p1 c x (w4.keep c x hA e)
          · have ne : c ≠ p := fun e => hpA (by rw [← e]; exact hA)
            rw [upd_ne ne]
            exact fun z => w4.al c hA (p1.free z)
        · rw [List.take_add_one, hz]
          refine DnAll.append (w5.mono (Pre.refl _) fun c x e => u2 c x ?_) (.cons (p2.mono (Pre.refl _) u2) .nil)
          obtain ⟨m1, m2⟩ := hide_some.mp e
          exact hide_some.mpr ⟨m1, p1 c x m2⟩
      · obtain ⟨hi, refs, w1, w2, w3, w4, w5⟩ := W
        rw [List.take_of_length_le (by rw [zipD_length]; omega)] at w5
        exact q p refs H2 A' hpH n4 (gr.trans w4) w3 w1 w5
end
end Ht


set_option maxRecDepth 100000
set_option maxHeartbeats 1000000 -- ht
/-! The value layer: sorted(set(xs)) of tuples of ints; (..) * n; the least of pairs. -/
namespace Ht
open PySem PySem.Spec PyProof.Rows L2 -- ht

/-! ### sorted(set(xs)) -/
abbrev encI (q : Addr × List Int) : PyData := .tuple (q.2.map .int)
theorem le_rows : PySem.W.dataLe false encI = fun p q => decide (p.2 ≤ q.2) := by
  funext p q
  show (!PySem.W.dataLt (encI q) (encI p)) = decide (p.2 ≤ q.2)
  rw [PySem.W.dataLt_tuple]
  show (!PySem.W.rowLt _ _) = _
  rw [PySem.W.dataLt_ints]
  by_cases h : q.2 < p.2
  · simp [h, List.not_le.mpr h]
  · simp [h, List.not_lt.mp h]
theorem reads_ints {h : Heap} : ∀ {vs : List Value} {ns : List Int}, IntsAre vs ns → ReadsAll h vs (ns.map .int) []
  | _, _, .nil => .nil
  | _, _, .cons n t r => ReadsAll.cons (as := []) (bs := []) (.int n t) (reads_ints r)
theorem reads_tup {h : Heap} {v : Value} {ns : List Int} (x : TS.TupInts h v ns) : Reads h v (.tuple (ns.map .int)) [] := by
  obtain ⟨a, xs, rfl, ⟨o, ho, hc, n, hd⟩, i⟩ := x -- ht
  exact .tuple ho hc hd (reads_ints i)
theorem perm_map {α β : Type} {f : α → β} : ∀ {ws l : List β}, ws.Perm l → ∀ L : List α, l = L.map f → ∃ L1 : List α, ws = L1.map f ∧ L1.Perm L := by
  intro ws l h
  induction h with
  | nil =>
    intro L e
    have : L = [] := by cases L with | nil => rfl | cons a b => cases e
    subst this
    exact ⟨[], rfl, .nil⟩
  | cons x h ih =>
    intro L e
    cases L with
    | nil => cases e
    | cons a r =>
      cases e
      obtain ⟨L1, rfl, p⟩ := ih r rfl
      exact ⟨a :: L1, rfl, p.cons a⟩
  | swap x y l =>
    intro L e
    cases L with
    | nil => cases e
    | cons a r =>
      cases r with
      | nil => cases e
      | cons b r => cases e; exact ⟨b :: a :: r, rfl, .swap a b r⟩
  | trans h1 h2 i1 i2 =>
    intro L e
    obtain ⟨L1, rfl, p⟩ := i2 L e
    obtain ⟨L2, rfl, p2⟩ := i1 L1 rfl
    exact ⟨L2, rfl, p2.trans p⟩
/-- sorted(s), s a set of tuples of ints, none empty -/
def rSortTI (K : PySem.W.Frag) (P : Program) (w : World) : List V → Hp → VK → Prop := fun vs H Q => ∃ (a : Addr) (L : List (Addr × List Int)), vs = [V.ref a] ∧ H a = some (SetTO P w a L) ∧ (∀ p ∈ L, SqT K H p.1 (p.2.map V.int)) ∧ (∀ p ∈ L, p.2 ≠ []) ∧
  ∀ (L' : List (Addr × List Int)) (p : Addr), L'.Perm L → (L.map (·.2)).Nodup → L'.Pairwise (fun q r => q.2 ≤ r.2) → H p = none → Q (.ref p) (upd H p (.lst (L'.map fun q => V.ref q.1)))
section
variable {X : Cx}
theorem cr_sortTI (hc : X.calm = true) (hu : X.A.units + 64 < cLine) : CallR X (.builtin "sorted") (rSortTI X.K X.prog X.w) := by
  intro pins s σ H vs us Q I r h -- ht
  obtain ⟨a, L, rfl, ha, hk, hne, q⟩ := h
  have R0 : SetT0 X.prog X.w s.heap a L := (I.hok a _ ha).1 -- ht
  obtain ⟨es, ep, t, R⟩ := R0.full fun p hp => I.isT (hk p hp) -- ht
  rw [Vals.ref1 r]
  obtain ⟨o, ho, hex, hd⟩ := R.ob -- ht
  have hfew := R.few
  have hsz := R.size
  have line : (64 : Nat) ≤ sizeLine := by decide
  refine Calls.call_function_entry kind_sorted plain_sorted entry_sorted (args_sorted1 _) ?_ -- ht
  unfold Builtin.«sorted»
  refine wpAny_bind (m := checkCount "sorted" 1 1 _) (wpAny_pure (wpAny_bind (collect_set (A := X.A.in1) (I.ok.hd hc) ⟨o, ho, hex.1, hd⟩ R.fits (by unfold scanBound; omega) R.tab.ris R.led fun s1 ws k1 hz g1 o1 pm => ?_)))
  have er : es.toList.map (·.2) = L.map fun q => Value.ref q.1 := by
    rw [R.rows]
    unfold rowsOf
    rw [List.map_map]
    rfl
  rw [er] at pm
  obtain ⟨L1, rfl, p1⟩ := perm_map pm L rfl
  have hL1 : L1.length < 64 := by rw [p1.length_eq]; exact hfew
  refine wpAny_bind (wpAny_newList ?_ (by rw [List.length_map]; omega))
  have g2 : (s1.heap.push (seqObj "list" (L1.map fun q => Value.ref q.1).toArray 0)).get? s1.heap.objs.size = some (seqObj "list" (L1.map fun q => Value.ref q.1).toArray 0) := Heap.get?_push_size _ rfl
  have ti : ∀ p ∈ L1, TS.TupInts (s1.heap.push (seqObj "list" (L1.map fun q => Value.ref q.1).toArray 0)) (.ref p.1) p.2 := fun p hp => tupInts_of (P := X.prog) (w := X.w) (isT_keep (R.tup p (p1.mem_iff.mp hp)) fun b u e => Heap.get?_push_of_some _ (k1 b u e))
  have e1 : ∀ l : List (Addr × List Int), PySem.W.EachIs (fun v (p : Addr × List Int) => v = Value.ref p.1) (l.map fun q => Value.ref q.1) l := fun l => by
    induction l with
    | nil => exact .nil
    | cons p l ih => exact .cons rfl ih
  have e2 : ∀ l : List (Addr × List Int), (∀ p ∈ l, p ∈ L1) → PySem.W.EachIs (fun v (p : Addr × List Int) => ∃ as, Reads (s1.heap.push (seqObj "list" (L1.map fun q => Value.ref q.1).toArray 0)) v (encI p) as ∧ s1.heap.objs.size ∉ as) (l.map fun q => Value.ref q.1) l := fun l => by
    induction l with
    | nil => exact fun _ => .nil
    | cons p l ih => exact fun m => .cons ⟨[], reads_tup (ti p (m p List.mem_cons_self)), by simp⟩ (ih fun x hx => m x (List.mem_cons_of_mem _ hx))
  have ne1 : ∀ d ∈ L1.map encI, ∃ x r, d = PyData.tuple (x :: r) := fun d hd => by
    obtain ⟨p, hp, rfl⟩ := List.mem_map.mp hd
    have := hne p (p1.mem_iff.mp hp)
    cases e : p.2 with
    | nil => exact absurd e this
    | cons x r => exact ⟨_, _, by simp [encI, e]; exact ⟨rfl, rfl⟩⟩
  refine wpAny_bind (wpAny_holding (PySem.W.list_sort_data (s := { s1 with heap := s1.heap.push (seqObj "list" (L1.map fun q => Value.ref q.1).toArray 0) }) (A := X.A.in1) (bs := L1) (enc := encI) g2 (e1 L1) (e2 L1 fun p hp => hp)
    (PySem.W.AllAlike.of fun b b' => by simp [PySem.W.alike, PySem.W.alike_ints]) (.inl ne1) (by omega) (fun b _ => ?_) fun out hlo hout => ?_))
  · show X.A.units + 1 + 1 + (encI b).depth < cLine
    have : (encI b).depth ≤ 1 := by simp [encI, PyData.depth, PySem.W.depth_ints]
    omega
  · obtain ⟨c, hat⟩ := sortedHeap_at (out := out.toArray) g2
    have eo : ∀ (vs : List Value) (l : List (Addr × List Int)), PySem.W.EachIs (fun v (p : Addr × List Int) => v = Value.ref p.1) vs l → vs = l.map fun q => Value.ref q.1 := fun vs l => by
      intro h
      induction h with
      | nil => rfl
      | cons h _ ih => rw [h, ih]; rfl
    have eo := eo _ _ hout
    rw [le_rows] at hout eo
    have pS : (L1.mergeSort fun p q => decide (p.2 ≤ q.2)).Perm L := (List.mergeSort_perm L1 _).trans p1
    have old : ∀ b u, s.heap.get? b = some u → (sortedHeap (s1.heap.push (seqObj "list" (L1.map fun q => Value.ref q.1).toArray 0)) s1.heap.objs.size (L1.map fun q => Value.ref q.1) out.toArray).get? b = some u := fun b u e => by
      have e' := k1 b u e
      have hlt := Heap.lt_size e'
      rw [sortedHeap_old (Nat.ne_of_lt hlt) (by rw [size_push']; exact Nat.lt_succ_of_lt hlt)] -- ht
      exact Heap.get?_push_of_some _ e'
    have J : Inv X pins σ (upd H s1.heap.objs.size (.lst ((L1.mergeSort fun p q => decide (p.2 ≤ q.2)).map fun q => V.ref q.1))) { s with heap := sortedHeap (s1.heap.push (seqObj "list" (L1.map fun q => Value.ref q.1).toArray 0)) s1.heap.objs.size (L1.map fun q => Value.ref q.1) out.toArray, gens := s1.gens, drawn := s1.drawn, toks := s1.toks } :=
      I.call (ch := []) (Un.laid old hz (I.hok.fresh hz)) (I.hok.laid old hz ⟨by rw [List.length_map, pS.length_eq]; omega, out, c, by rw [eo]; exact vals_of_refs _, hat⟩) (by rw [g1]; exact I.bare) fun _ z => nomatch z
    have ee : ∀ h : Heap, ({ s1 with heap := h } : Shared) = { s with heap := h, gens := s1.gens, drawn := s1.drawn, toks := s1.toks } := fun h => by
      cases s1
      cases s
      cases o1
      rfl
    refine wpAny_pure ⟨_, rfl, ?_⟩ -- ht
    show EP X pins σ Q _ _
    rw [show ({ s1 with heap := s1.heap.push (seqObj "list" (L1.map fun q => Value.ref q.1).toArray 0) } : Shared) = { s1 with heap := s1.heap.push (seqObj "list" (L1.map fun q => Value.ref q.1).toArray 0) } from rfl]
    have fin : EP X pins σ Q (.ref s1.heap.objs.size) { s with heap := sortedHeap (s1.heap.push (seqObj "list" (L1.map fun q => Value.ref q.1).toArray 0)) s1.heap.objs.size (L1.map fun q => Value.ref q.1) out.toArray, gens := s1.gens, drawn := s1.drawn, toks := s1.toks } :=
      ⟨.ref s1.heap.objs.size, _, J, rfl, q _ _ pS R.nd ?_ (I.hok.fresh hz)⟩
    · rw [← ee] at fin
      exact fin
    · refine (List.pairwise_mergeSort (le := fun p q => decide (p.2 ≤ q.2)) (fun a b c h1 h2 => ?_) (fun a b => ?_) L1).imp fun h => of_decide_eq_true h
      · exact decide_eq_true (List.le_trans (of_decide_eq_true h1) (of_decide_eq_true h2))
      · rcases List.le_total a.2 b.2 with h | h
        · simp [h]
        · simp [h]

def intsOf? : D → Option (List Int)
  | .tup ds => ds.mapM dInt
  | _ => none
def sortSetI (ks : List (List Int)) : List (List Int) := ks.eraseDups.mergeSort fun a b => decide (a ≤ b)
def tupI (k : List Int) : D := .tup (k.map .int)
def lSortSet (f : LF) : LF := fun ρ C => match f ρ C with
  | some (ds, C1) => match ds.mapM intsOf? with
    | some ks => if ks.length < 64 ∧ ks.all (fun k => !k.isEmpty) = true then some ((sortSetI ks).map tupI, C1) else none
    | none => none
  | none => none
theorem ints_back : ∀ {ds : List D} {k : List Int}, ds.mapM dInt = some k → ds = k.map .int
  | [], k, h => by
    have h : some [] = some k := by simpa using h
    cases h
    rfl
  | d :: ds, k, h => by
    rw [List.mapM_cons] at h
    cases d with
    | int i =>
      cases q : ds.mapM dInt with
      | none => rw [q] at h; simp [dInt] at h
      | some r =>
        rw [q] at h
        have h : some (i :: r) = some k := by simpa [dInt] using h
        cases h
        rw [ints_back q]
        rfl
    | _ => simp [dInt] at h
theorem tups_back : ∀ {ds : List D} {ks : List (List Int)}, ds.mapM intsOf? = some ks → ds = ks.map tupI
  | [], ks, h => by
    have h : some [] = some ks := by simpa using h
    cases h
    rfl
  | d :: ds, ks, h => by
    rw [List.mapM_cons] at h
    cases q1 : intsOf? d with
    | none => rw [q1] at h; simp at h
    | some k =>
      cases q : ds.mapM intsOf? with
      | none => rw [q1, q] at h; simp at h
      | some r =>
        rw [q1, q] at h
        have h : some (k :: r) = some ks := by simpa using h
        cases h
        rw [tups_back q]
        cases d with
        | tup es =>
          rw [ints_back (show es.mapM dInt = some k from q1)]
          rfl
        | _ => cases q1
theorem dn_tups {K : PySem.W.Frag} {A : List Addr} {H : Hp} : ∀ {xs : List V} {ks : List (List Int)}, DnAll K A H xs (ks.map tupI) → ∃ ps : List (Addr × List Int), xs = ps.map (fun p => V.ref p.1) ∧ ps.map (·.2) = ks ∧ ∀ p ∈ ps, SqT K H p.1 (p.2.map V.int)
  | _, [], h => by cases h; exact ⟨[], rfl, rfl, by simp⟩
  | _, k :: ks, h => by
    cases h with
    | cons h t =>
      obtain ⟨ps, e1, e2, e3⟩ := dn_tups t
      subst e1 e2
      have h' : Dn K A H _ (.tup (k.map .int)) := h
      cases h' with
      | @tup a ys _ s t =>
        rw [t.ints] at s
        refine ⟨(a, k) :: ps, rfl, rfl, fun p hp => ?_⟩
        rcases List.mem_cons.mp hp with e | e -- ht
        · subst e; exact s
        · exact e3 p e
theorem tups_dn {K : PySem.W.Frag} {A : List Addr} {H : Hp} : ∀ {ps : List (Addr × List Int)}, (∀ p ∈ ps, SqT K H p.1 (p.2.map V.int)) → DnAll K A H (ps.map fun p => V.ref p.1) ((ps.map (·.2)).map tupI)
  | [], _ => .nil
  | p :: ps, h => .cons (.tup (h p List.mem_cons_self) DnAll.ofInts) (tups_dn fun q hq => h q (List.mem_cons_of_mem _ hq))
theorem nodup_dups {α : Type} [BEq α] [LawfulBEq α] : ∀ (n : Nat) (l : List α), l.length ≤ n → l.eraseDups.Nodup
  | _, [], _ => by simp
  | 0, a :: l, h => by simp at h
  | n + 1, a :: l, h => by
    rw [List.eraseDups_cons]
    refine List.nodup_cons.mpr ⟨fun z => ?_, nodup_dups n _ (Nat.le_trans (List.length_filter_le _ _) (by simpa using h))⟩
    rw [List.mem_eraseDups, List.mem_filter] at z
    simpa using z.2
theorem sort_uniq {l ks : List (List Int)} (h1 : l.Nodup) (h2 : ∀ k, k ∈ l ↔ k ∈ ks) (h3 : l.Pairwise (· ≤ ·)) : l = sortSetI ks := by
  have p : l.Perm (sortSetI ks) := by
    refine List.Perm.trans ?_ (List.mergeSort_perm _ _).symm
    refine (List.perm_ext_iff_of_nodup h1 (nodup_dups _ _ (Nat.le_refl _))).mpr fun k => ?_
    rw [h2, List.mem_eraseDups]
  refine p.eq_of_pairwise (le := (· ≤ ·)) (fun a b _ _ x y => List.le_antisymm x y) h3 ?_
  refine (List.pairwise_mergeSort (le := fun p q => decide (p ≤ q)) (fun a b c h1 h2 => ?_) (fun a b => ?_) ks.eraseDups).imp fun h => of_decide_eq_true h
  · exact decide_eq_true (List.le_trans (of_decide_eq_true h1) (of_decide_eq_true h2))
  · rcases List.le_total a b with h | h
    · simp [h]
    · simp [h]
theorem f_sortSet {e : Expr} {f : LF} {p p2 pos pos2 : Pos} (hc : X.calm = true) (hu : X.A.units + 64 < cLine) (hg : Gl X "sorted") (hm : X.mg "sorted" = none) (hg2 : Gl X "set") (hm2 : X.mg "set" = none) (he : PE X e (tL X.K f))
    (hs : starEach [e] X.env = (false, eval e X.env) :: starEach [] X.env := by rfl) (hs2 : starEach [Expr.Call (.Name "set" p2) [e] [] pos2] X.env = (false, eval (Expr.Call (.Name "set" p2) [e] [] pos2) X.env) :: starEach [] X.env := by rfl) :
    PE X (.Call (.Name "sorted" p) [.Call (.Name "set" p2) [e] [] pos2] [] pos) (tF X.K (lSortSet f)) :=
  PE.cq (pe_callB (cr_sortTI hc hu) hg hm PyProof.Rows.boot_sorted (pa_cons (pe_callTy (cr_setOfT hc hu) hg2 hm2 PyProof.Rows.boot_set (pa_cons he pa_nil hs) (by decide) (by decide) hs rfl) pa_nil hs2) (by decide) (by decide) hs2 rfl) fun σ H Q ⟨g, d, C', S, hf, q⟩ => by
    unfold lSortSet at hf
    cases q1 : f g.ρ g.C with
    | none => rw [q1] at hf; cases hf
    | some pr =>
      obtain ⟨ds, C1⟩ := pr
      rw [q1] at hf
      dsimp only at hf
      cases q2 : ds.mapM intsOf? with
      | none => rw [q2] at hf; cases hf
      | some ks =>
        rw [q2] at hf
        dsimp only at hf
        by_cases hk : ks.length < 64 ∧ ks.all (fun k => !k.isEmpty) = true
        case neg => rw [if_neg hk] at hf; cases hf
        rw [if_pos hk] at hf
        cases hf
        have ed := tups_back q2
        subst ed
        refine ⟨g, _, C', S, q1, fun l xs H' A' gr S' s t => ?_⟩
        obtain ⟨ps, e1, e2, e3⟩ := dn_tups t
        subst e1
        refine ⟨l, ps, rfl, .inl (.inl (hide_same _ _ s)), fun p hp => sqT_mono hide_same (e3 p hp), by rw [← List.length_map (f := (·.2)), e2]; exact hk.1, fun a L ha hL1 hL2 => ?_⟩
        have S2 := S'.keep (S'.new (o := SetTO X.prog X.w a L) ha)
        have gr2 := gr.trans (Grow.of S'.al (S'.new (o := SetTO X.prog X.w a L) ha))
        have hLk : ∀ p ∈ L, SqT X.K (upd H' a (SetTO X.prog X.w a L)) p.1 (p.2.map V.int) := fun p hp => sqT_mono (S'.new ha) (sqT_mono hide_same (e3 p (hL1 p hp)))
        refine ⟨a, L, rfl, upd_same, hLk, fun p hp z => ?_, fun L' p hp hnd hpw hpn => ?_⟩
        · have hm : p.2 ∈ ks := by rw [← e2]; exact List.mem_map.mpr ⟨p, hL1 p hp, rfl⟩
          have := List.all_eq_true.mp hk.2 _ hm
          rw [z] at this
          cases this
        · have ek : L'.map (·.2) = sortSetI ks := by
            refine sort_uniq ((hp.map (·.2)).nodup_iff.mpr hnd) (fun k => ?_) (List.pairwise_map.mpr hpw)
            rw [(hp.map (·.2)).mem_iff, ← e2]
            constructor
            · intro hk
              obtain ⟨p, hp, e⟩ := List.mem_map.mp hk
              exact List.mem_map.mpr ⟨p, hL1 p hp, e⟩
            · intro hk
              obtain ⟨p, hp, e⟩ := List.mem_map.mp hk
              rw [← e]
              exact hL2 p hp
          refine fresh_of gr2 S2 ?_ q p hpn
          rw [← ek]
          refine tups_dn fun r hr => ?_
          have z := e3 r (hL1 r (hp.mem_iff.mp hr))
          exact sqT_mono (fun b x e => by
            obtain ⟨m1, m2⟩ := hide_some.mp e
            exact hide_some.mpr ⟨m1, S'.new ha b x m2⟩) z
end

/-! ### (..) * n, n not below 0 -/
theorem mul_by1 (l : Addr) (items : Array Value) (n : Nat) (dd : Option Addr) (sl : Array (Option Value)) (u : Tok) :
    Meets (Builtin.«tuple.__mul__» ⟨[.ref l, .int 1 u], []⟩) (fun _ R s => s.heap.get? l = some { cls := .type "tuple", dict := dd, data := .seq items n, slots := sl } ∧ R (.ok (.ret (Value.ref l))) s) :=
  .of_wp fun prog w A R s h => by -- ht
    obtain ⟨hp, g, d, tk, os⟩ := s -- ht
    obtain ⟨hl, h⟩ := h
    have f1 := AutoSeq1.idx_int
    wp_walk using wpAny_loadPart' hl -- ht
    repeat (first
      | (refine wpAny_ite_true (by simp) ?_; wp_walk using wpAny_loadPart' hl)
      | (refine wpAny_ite_false (by simp) ?_; wp_walk using wpAny_loadPart' hl))
    exact ⟨_, rfl, h⟩
theorem mul_by0 (l : Addr) (items : Array Value) (n : Nat) (dd : Option Addr) (sl : Array (Option Value)) (u : Tok) (hne : items.isEmpty = false) :
    Meets (Builtin.«tuple.__mul__» ⟨[.ref l, .int 0 u], []⟩) (fun _ R s => s.heap.get? l = some { cls := .type "tuple", dict := dd, data := .seq items n, slots := sl } ∧
      R (.ok (.ret (Value.ref s.heap.objs.size))) { s with heap := s.heap.push { cls := Value.type "tuple", data := Data.seq #[] }, toks := s.toks }) :=
  .of_wp fun prog w A R s h => by -- ht
    obtain ⟨hp, g, d, tk, os⟩ := s -- ht
    obtain ⟨hl, h⟩ := h
    have f1 := AutoSeq1.idx_int
    wp_walk using wpAny_loadPart' hl -- ht
    repeat (first
      | (refine wpAny_ite_true (by simp) ?_; wp_walk using wpAny_loadPart' hl)
      | (refine wpAny_ite_false (by simp [hne]) ?_; wp_walk using wpAny_loadPart' hl))
    exact ⟨_, rfl, h⟩
def rRepA (K : PySem.W.Frag) : R2 := fun x y H Q => ∃ (l : Addr) (k : Int) (xs : List V), x = .ref l ∧ y = .int k ∧ SqT K H l xs ∧ xs ≠ [] ∧ 0 ≤ k ∧ k ≤ 1000 ∧ xs.length ≤ 1000 ∧ (k = 1 → Q (.ref l) H) ∧ ∀ p, H p = none → Q (.ref p) (upd H p (.tup (List.replicate k.toNat xs).flatten))
section
variable {X : Cx}
theorem op_repA : OpR X (binaryOp .Mult) (rRepA X.K) := by
  intro pins s σ H x y v u Q I rx ry h -- ht
  obtain ⟨l, k, xs, rfl, rfl, hT, hne, h1, h2, hz, q1, q⟩ := h
  by_cases hk : 2 ≤ k
  · exact op_repT pins s σ H _ _ v u Q I rx ry ⟨l, k, xs, rfl, rfl, hT, hne, hk, h2, hz, q⟩
  · cases rx
    obtain ⟨t, rfl⟩ := ry
    obtain ⟨its, r, ⟨⟨cls, dd, data, sl⟩, ho, hc, n, hd⟩, hs⟩ := I.tuple hT -- ht
    simp only at hc hd
    subst hc hd
    have hle : its.length = xs.length := r.length.symm -- ht
    have hi : its.toArray.isEmpty = false := by -- ht
      cases its with
      | nil => exact absurd (List.eq_nil_of_length_eq_zero (by simpa using hle.symm)) hne
      | cons a b => rfl
    have k01 : k = 0 ∨ k = 1 := by omega
    rcases k01 with rfl | rfl
    · refine wpAny_binaryOp_repeat_ref (T := "tuple") (U := "int") (by decide) ⟨_, ho, rfl⟩ (fun s' => typeIs_int s' 0 t) noFill_tuple_mul F.fills_int_mul F.slot_int_rmul repeat_tuple F.slot_int_index.lookup
        (call_meets F.slot_int_rmul (typeIs_int s 0 t) F.entry_int_rmul (F.args_int_rmul_2 _ _) (int_rmul_tuple 0 t l its.toArray n dd sl)
          ⟨ho, rfl, ⟨_, ho, rfl⟩, call_meets F.slot_tuple_mul ⟨_, ho, rfl⟩ F.entry_tuple_mul (F.args_tuple_mul_2 _ _) (mul_by0 l its.toArray n dd sl t hi) ⟨ho, ?_⟩⟩)
      refine ⟨.ref s.heap.objs.size, _, I.laid (t' := s.toks) (o := .tup []) (fun b ob q => Heap.get?_push_of_some _ q) (Nat.le_refl _) ?_, rfl, q _ (I.hok.fresh (Nat.le_refl _))⟩
      exact ⟨Nat.zero_le _, [], .nil, IsTup.new _ _⟩
    · refine wpAny_binaryOp_repeat_ref (T := "tuple") (U := "int") (by decide) ⟨_, ho, rfl⟩ (fun s' => typeIs_int s' 1 t) noFill_tuple_mul F.fills_int_mul F.slot_int_rmul repeat_tuple F.slot_int_index.lookup
        (call_meets F.slot_int_rmul (typeIs_int s 1 t) F.entry_int_rmul (F.args_int_rmul_2 _ _) (int_rmul_tuple 1 t l its.toArray n dd sl)
          ⟨ho, rfl, ⟨_, ho, rfl⟩, call_meets F.slot_tuple_mul ⟨_, ho, rfl⟩ F.entry_tuple_mul (F.args_tuple_mul_2 _ _) (mul_by1 l its.toArray n dd sl t) ⟨ho, ?_⟩⟩)
      exact ⟨.ref l, _, I, rfl, q1 rfl⟩
def kRepT (x y : D) : Option D := match x, y with
  | .tup ds, .int k => if ds ≠ [] ∧ ds.length ≤ 1000 ∧ 0 ≤ k ∧ k ≤ 1000 then some (.tup (List.replicate k.toNat ds).flatten) else none
  | _, _ => none
theorem DnAll.rep {K : PySem.W.Frag} {A : List Addr} {H : Hp} {vs : List V} {ds : List D} (h : DnAll K A H vs ds) : ∀ n : Nat, DnAll K A H (List.replicate n vs).flatten (List.replicate n ds).flatten
  | 0 => .nil
  | n + 1 => by
    rw [List.replicate_succ, List.replicate_succ, List.flatten_cons, List.flatten_cons] -- ht
    exact h.append (DnAll.rep h n)
theorem v_repT {a b : Expr} {f h : EF} {pos : Pos} (ha : PE X a (tV X.K f)) (hb : PE X b (tV X.K h)) : PE X (.BinOp a .Mult b pos) (tV X.K (e2 kRepT f h)) := PE.cq (pe_op op_repA ha hb) fun σ H Q ⟨g, d, C', S, hf, q⟩ => by
  obtain ⟨x, y, C1, q1, q2, q3⟩ := e2_some hf
  refine row2 S q1 q2 fun v w H' A' gr S' dv dw => ?_
  cases dv with
  | @tup l xs es s t =>
    cases dw with
    | int k =>
      unfold kRepT at q3
      dsimp only at q3
      by_cases hc : es ≠ [] ∧ es.length ≤ 1000 ∧ 0 ≤ k ∧ k ≤ 1000
      · rw [if_pos hc] at q3
        cases q3
        refine ⟨l, k, xs, rfl, rfl, sqT_mono hide_same s, t.ne hc.1, hc.2.2.1, hc.2.2.2, by rw [t.length]; exact hc.2.1, fun e => ?_, fun p hp => ?_⟩
        · subst e
          refine q _ H' A' gr S' ?_
          have e1 : (List.replicate (1 : Int).toNat es).flatten = es := by simp
          rw [e1]
          exact .tup s t
        · obtain ⟨n1, n2, n3⟩ := new_tup S' hp (t.rep k.toNat)
          exact q _ _ A' (gr.trans n3) n1 n2
      · rw [if_neg hc] at q3; cases q3
    | _ => cases q3
  | _ => cases q3

/-! ### the least of tuples of ints -/
def ltI : List Int → List Int → Bool
  | [], [] => false
  | [], _ :: _ => true
  | _ :: _, [] => false
  | x :: xs, y :: ys => decide (x < y) || (decide (x = y) && ltI xs ys)
def minI (x : List Int) (xs : List (List Int)) : List Int := xs.foldl (fun a y => if ltI y a then y else a) x
def eMin2 (f : LF) : EF := fun ρ C => match f ρ C with
  | some (ds, C1) => match ds.mapM intsOf? with
    | some (k :: ks) => some (tupI (minI k ks), C1)
    | _ => none
  | none => none
theorem ltI_eq : ∀ xs ys : List Int, ltI xs ys = decide (xs < ys)
  | [], [] => by simp [ltI]
  | [], _ :: _ => by simp [ltI]
  | _ :: _, [] => by simp [ltI]
  | x :: xs, y :: ys => by
    unfold ltI
    rw [ltI_eq xs ys]
    by_cases h : x = y
    · subst h; simp [List.cons_lt_cons_iff]
    · simp [h, List.cons_lt_cons_iff]
abbrev toT (k : List Int) : PyData := .tuple (k.map .int)
theorem lt_toT (x y : List Int) : PySem.W.dataLt (toT x) (toT y) = ltI x y := by
  rw [PySem.W.dataLt_tuple, ltI_eq]
  exact PySem.W.dataLt_ints x y
theorem minI_eq : ∀ (ks : List (List Int)) (k : List Int), PySem.W.minD (toT k) (ks.map toT) = toT (minI k ks)
  | [], k => rfl
  | y :: ks, k => by
    show PySem.W.minD (if PySem.W.dataLt (toT y) (toT k) then toT y else toT k) (ks.map toT) = toT (minI (if ltI y k then y else k) ks)
    rw [lt_toT]
    cases ltI y k
    · exact minI_eq ks k
    · exact minI_eq ks y
theorem reads_ints_inj {h : Heap} : ∀ {vs : List Value} {ns ms : List Int} {as : List Addr}, IntsAre vs ns → ReadsAll h vs (ms.map .int) as → ns = ms
  | _, _, [], _, i, r => by
    have r' : ReadsAll h _ [] _ := r -- ht
    cases r'
    cases i
    rfl
  | _, _, m :: ms, _, i, r => by
    have r' : ReadsAll h _ (.int m :: ms.map .int) _ := r
    cases r' with
    | cons r1 r2 =>
      cases i with
      | cons n t i =>
        cases r1
        rw [reads_ints_inj i r2]
theorem reads_tup_inj {h : Heap} {v : Value} {ns ms : List Int} {as : List Addr} (x : TS.TupInts h v ns) (r : Reads h v (toT ms) as) : ns = ms := by
  obtain ⟨a, xs, rfl, ⟨o, ho, hc, n, hd⟩, i⟩ := x -- ht
  cases r with
  | tuple h1 h2 h3 h4 =>
    rw [ho] at h1
    cases h1
    rw [hd] at h3
    cases h3
    exact reads_ints_inj i h4
def rMinI (K : PySem.W.Frag) : List V → Hp → VK → Prop := fun vs H Q => ∃ (l : Addr) (p0 : Addr × List Int) (ps : List (Addr × List Int)), vs = [V.ref l] ∧ SqL K H l ((p0 :: ps).map fun p => V.ref p.1) ∧ (∀ p ∈ p0 :: ps, SqT K H p.1 (p.2.map V.int)) ∧
  ∀ p ∈ p0 :: ps, p.2 = minI p0.2 (ps.map (·.2)) → Q (.ref p.1) H
theorem reads_list {h : Heap} : ∀ {ps : List (Addr × List Int)}, (∀ p ∈ ps, TS.TupInts h (.ref p.1) p.2) → ReadsAll h (ps.map fun p => Value.ref p.1) ((ps.map (·.2)).map toT) []
  | [], _ => .nil
  | p :: ps, x => ReadsAll.cons (as := []) (bs := []) (reads_tup (x p List.mem_cons_self)) (reads_list fun q hq => x q (List.mem_cons_of_mem _ hq))
theorem depth_toT : ∀ l : List (List Int), PyData.depthAll (l.map toT) ≤ 1
  | [] => by simp [PyData.depthAll] -- ht
  | k :: l => by
    show PyData.depthAll (toT k :: l.map toT) ≤ 1
    have := depth_toT l
    simp only [PyData.depthAll, toT, PyData.depth, PySem.W.depth_ints]
    omega
theorem cr_minI (hc : X.calm = true) (hu : X.A.units + 64 < cLine) : CallR X (.builtin "min") (rMinI X.K) := by
  intro pins s σ H vs us Q I r h -- ht
  obtain ⟨l, p0, ps, rfl, hl, hk, q⟩ := h
  rw [Vals.ref1 r]
  obtain ⟨its, rv, pl, hz⟩ := I.list hl -- ht
  have ei : its = (p0 :: ps).map fun p => Value.ref p.1 := refs_of_vals rv
  have ti : ∀ p ∈ p0 :: ps, TS.TupInts s.heap (.ref p.1) p.2 := fun p hp => tupInts_of (P := X.prog) (w := X.w) (I.isT (hk p hp))
  have hr := reads_list ti
  rw [← ei] at hr
  refine PySem.W.min_list_data (x := toT p0.2) (xs := (ps.map (·.2)).map toT) (as := []) (I.ok.hd hc) pl.isList (by simpa using hr) ⟨fun x hx y hy => ?_, fun x hx => ?_⟩ ?_ fun i v h' tk bs hv hm k => ?_
  · obtain ⟨a, _, rfl⟩ := List.mem_map.mp (show x ∈ (p0.2 :: ps.map (·.2)).map toT from hx)
    obtain ⟨b, _, rfl⟩ := List.mem_map.mp (show y ∈ (p0.2 :: ps.map (·.2)).map toT from hy)
    simp [PySem.W.alike, PySem.W.alike_ints]
  · obtain ⟨a, _, rfl⟩ := List.mem_map.mp (show x ∈ (p0.2 :: ps.map (·.2)).map toT from hx)
    exact fun z => by cases z
  · have := depth_toT (p0.2 :: ps.map (·.2))
    have : PyData.depthAll (toT p0.2 :: (ps.map (·.2)).map toT) ≤ 1 := this
    omega
  · rw [minI_eq] at hm
    rw [ei] at hv
    have hv' : ((p0 :: ps).map fun p => Value.ref p.1)[i]? = some v := by simpa using hv
    rw [List.getElem?_map] at hv'
    cases e : (p0 :: ps)[i]? with
    | none => rw [e] at hv'; cases hv'
    | some p =>
      rw [e] at hv'
      cases hv'
      have hp := List.mem_of_getElem? e
      exact ⟨.ref p.1, H, I.kept (t' := tk) k, rfl, q p hp (reads_tup_inj ((ti p hp).keeps fun b o e _ => k b o e) hm)⟩
theorem v_min2 {e : Expr} {f : LF} {p pos : Pos} (hc : X.calm = true) (hu : X.A.units + 64 < cLine) (hg : Gl X "min") (hm : X.mg "min" = none) (he : PE X e (tL X.K f)) (hs : starEach [e] X.env = (false, eval e X.env) :: starEach [] X.env := by rfl) :
    PE X (.Call (.Name "min" p) [e] [] pos) (tV X.K (eMin2 f)) :=
  PE.cq (pe_callB (cr_minI hc hu) hg hm (by decide +kernel) (pa_cons he pa_nil hs) (by decide) (by decide) hs rfl) fun σ H Q ⟨g, d, C', S, hf, q⟩ => by
    unfold eMin2 at hf
    cases q1 : f g.ρ g.C with
    | none => rw [q1] at hf; cases hf
    | some pr =>
      obtain ⟨ds, C1⟩ := pr
      rw [q1] at hf
      dsimp only at hf
      cases q2 : ds.mapM intsOf? with
      | none => rw [q2] at hf; cases hf
      | some ks =>
        rw [q2] at hf
        cases ks with
        | nil => cases hf
        | cons k ks =>
          cases hf
          have ed := tups_back q2
          subst ed
          refine ⟨g, _, C', S, q1, fun l xs H' A' gr S' s t => ?_⟩
          obtain ⟨ps, e1, e2, e3⟩ := dn_tups t
          cases ps with
          | nil => cases e2
          | cons p0 ps =>
            subst e1
            cases e2
            refine ⟨l, p0, ps, rfl, .inl (.inl (hide_same _ _ s)), fun p hp => sqT_mono hide_same (e3 p hp), fun p hp ep => ?_⟩
            refine q _ H' A' gr S' ?_
            have z := e3 p hp
            rw [← ep]
            exact .tup z DnAll.ofInts
end
end Ht


set_option maxRecDepth 100000
set_option maxHeartbeats 1000000 -- ht
/-! The value layer: a law's pen, a law's def, the end. -/
namespace Ht
open PySem PySem.Spec PyProof.Rows L2 -- ht

/-! ### the pen -/
def spPen (K : PySem.W.Frag) : Sp := fun vs H Q _ => ∃ (a : Addr) (ns : List Int), vs = [.ref a] ∧ ns.length ≤ 63 ∧ SqL K H a (ns.map V.int) ∧
  ∀ H' q p, Same H H' → H q = none → H p = none → p ≠ q → H' q = some (.lst (ns.map V.int)) → H' p = some (.lst [.ref q, .int 0, .int 0]) → Q (.ref p) H'
theorem cut63 (ns : List Int) (h : ns.length ≤ 63) : cutV (ns.map V.int) none (some 63) = ns.map V.int := by
  unfold cutV
  have e1 : HT.sIx (ns.map V.int).length 0 none = 0 := rfl
  have e2 : HT.sIx (ns.map V.int).length (ns.map V.int).length (some 63) = min 63 (ns.map V.int).length := HT.sIx_nat _ _ 63
  rw [e1, e2, List.length_map, List.drop_zero, Nat.min_eq_right h, Nat.sub_zero, List.take_of_length_le (by simp)]
/-- the value a pen's def gives -/
theorem pen_reads {K : PySem.W.Frag} {σ : L2.St} {H : Hp} {a : Addr} {ns : List Int} {Q : VK} (h0 : σ[0]? = some (some (V.ref a))) (hn : ns.length ≤ 63) (hl : SqL K H a (ns.map V.int))
    (q : ∀ H' q p, Same H H' → H q = none → H p = none → p ≠ q → H' q = some (.lst (ns.map V.int)) → H' p = some (.lst [.ref q, .int 0, .int 0]) → Q (.ref p) H') :
    tLst (tCons (tCB (fun xs H Q => ∃ p ys, xs = [V.ref p] ∧ (SqL K H p ys ∨ SqT K H p ys) ∧ ∀ l, H l = none → Q (.ref l) (upd H l (.lst ys))) (tCons (tSl (rSlL K) (tVar 0) tNoPart (tPart (L2.tC (.int 63)))) tNil)) (tCons (L2.tC (.int 0)) (tCons (L2.tC (.int 0)) tNil))) σ H Q := by
  refine ⟨_, h0, 63, rfl, a, _, rfl, hl, fun s hs => ⟨s, ns.map V.int, rfl, .inl (.inl (.inl ?_)), fun l hl2 => ⟨Nat.le_of_lt (small1000 (by simp)), fun p hp => ?_⟩⟩⟩
  · rw [upd_same, cut63 ns hn]
  · have nls : l ≠ s := fun e => by rw [e, upd_same] at hl2; cases hl2
    have npl : p ≠ l := fun e => by rw [e, upd_same] at hp; cases hp
    have nps : p ≠ s := fun e => by rw [e, upd_ne (Ne.symm nls), upd_same] at hp; cases hp
    refine q _ l p (fun b x e => ?_) ?_ ?_ npl ?_ upd_same
    · have n1 := ne_of_none e hs
      have e1 : upd H s (.lst (cutV (ns.map V.int) none (some 63))) b = some x := by rw [upd_ne n1]; exact e
      have n2 := ne_of_none e1 hl2
      have e2 : upd (upd H s (.lst (cutV (ns.map V.int) none (some 63)))) l (.lst (ns.map V.int)) b = some x := by rw [upd_ne n2]; exact e1
      rw [upd_ne (ne_of_none e2 hp)]
      exact e2
    · rw [upd_ne nls] at hl2; exact hl2
    · rw [upd_ne npl, upd_ne nps] at hp; exact hp
    · rw [upd_ne (Ne.symm npl), upd_same]
/-! ### the law's def: a pen, then all else on data -/
def penD (ns : List Int) : MO := .lst [.lst (ns.map .int), .int 0, .int 0]
def rhoLaw (n : Nat) : Rho := .no :: .im (.mu 0) :: List.replicate (n - 2) .no
/-- the law's promise: what R says of the script is enough -/
def spLaw (K : PySem.W.Frag) (R : List Int → Prop) : Sp := fun vs H Q _ => ∃ (a : Addr) (ns : List Int), vs = [.ref a] ∧ ns.length ≤ 63 ∧ SqL K H a (ns.map V.int) ∧ R ns ∧ ∀ H', Q (.bl true) H'
theorem law_entry {K : PySem.W.Frag} {N : List Str} {H' : Hp} {a p q : Addr} {ns : List Int} (hN : 2 ≤ N.length) (hpq : p ≠ q) (hq : H' q = some (.lst (ns.map V.int))) (hp : H' p = some (.lst [.ref q, .int 0, .int 0])) :
    Ds K ⟨H', fun _ => False, [p], [penD ns], fun _ => 0, rhoLaw N.length⟩ H' ((L2.start N [.ref a]).set 1 (some (.ref p))) := by
  have hno : ∀ (i : Nat) (es : List D), (rhoLaw N.length)[i]? ≠ some (.ow es) := fun i es h => by
    rcases List.mem_cons.mp (List.mem_of_getElem? h) with z | z
    · cases z
    · rcases List.mem_cons.mp z with z | z -- ht
      · cases z
      · have z := List.eq_of_mem_replicate z; cases z
  have nh : ∀ b, b ≠ p → ¬ Hid (⟨H', fun _ => False, [p], [penD ns], fun _ => 0, rhoLaw N.length⟩ : Gh) b := fun b hb z => by
    rcases z with (z | z) | ⟨i, es, z, _⟩
    · exact z
    · exact hb (by simpa using z)
    · exact hno i es z
  have hl : (L2.start N [V.ref a]).length = N.length := start_len N [V.ref a] (by simp; omega)
  refine ⟨fun _ _ h _ => h, fun _ z => z.elim, fun b hb => ?_, ⟨by simp, rfl, fun i b mo h1 h2 => ?_⟩, fun i j es fs h => absurd h (hno i es), fun i es h => absurd h (hno i es), ?_, fun i d h => ?_, fun i es h => absurd h (hno i es)⟩
  · have e : b = p := by simpa using hb
    rw [e, hp]
    exact fun z => by cases z
  · have h1 : [p][i]? = some b := h1
    have h2 : [penD ns][i]? = some mo := h2
    have i0 : i = 0 := by
      have := (List.getElem?_eq_some_iff.mp h1).1
      simpa using this
    subst i0
    cases h1
    cases h2
    refine ⟨[.ref q, .int 0, .int 0], hp, .cons (.lst (hide_some.mpr ⟨nh q (Ne.symm hpq), hq⟩) DnAll.ofInts) (.cons (.int 0) (.cons (.int 0) .nil))⟩
  · show ((L2.start N [V.ref a]).set 1 (some (V.ref p))).length = (rhoLaw N.length).length
    rw [List.length_set, hl]
    simp [rhoLaw]
    omega
  · have i1 : i = 1 ∧ d = .mu 0 := by
      have h : (Sl.no :: .im (.mu 0) :: List.replicate (N.length - 2) .no)[i]? = some (.im d) := h
      cases i with
      | zero => cases h
      | succ i =>
        cases i with
        | zero => cases h; exact ⟨rfl, rfl⟩
        | succ i =>
          have h : (List.replicate (N.length - 2) Sl.no)[i]? = some (.im d) := h
          have z := List.eq_of_mem_replicate (List.mem_of_getElem? h)
          cases z
    obtain ⟨rfl, rfl⟩ := i1
    refine ⟨.ref p, ?_, .mu rfl⟩
    rw [List.getElem?_set_self (by rw [hl]; omega)]
/-- behind the pen: the reading of the rest -/
theorem law_reads {K : PySem.W.Frag} {N : List Str} {H : Hp} {a : Addr} {ns : List Int} {b : SF} {C' : Mem} {Ee : XK} {Q : VK} (hN : 2 ≤ N.length) (hn : ns.length ≤ 63) (hl : SqL K H a (ns.map V.int)) (h0 : (L2.start N [V.ref a])[0]? = some (some (V.ref a)))
    (hb : b (rhoLaw N.length) [penD ns] = some (.rt (.bl true), C')) (q : ∀ H', Q (.bl true) H') :
    tSeq (tAsg (tCall (spPen K) [] Ee (tCons (tVar 0) tNil)) (gName 1)) (sV K b) { nx := fun _ H' => Q .non H', rt := Q } (L2.start N [.ref a]) H := by
  refine ⟨V.ref a, h0, a, ns, rfl, hn, hl, fun H' q' p sm hq hp ne e1 e2 => ?_⟩
  refine ⟨_, _, _, law_entry hN ne e1 e2, hb, fun v H2 A2 r => ?_⟩
  have := r.dn
  cases this
  exact q _
/-! ### the end: as law_call, walk_ofE, and the base tells that no seer stands in the modules -/
theorem base_seer {h : Heap} {H : Hp} {a : Addr} {vs : Array Value} (x : h.NoSeer) (ho : h.get? a = some { cls := .type "list", data := .seq vs }) (hH : ∀ c, H c ≠ none → c = a) : (hidT h H).NoSeer := by
  have up : ∀ (c : Addr) (o : Obj), h.get? c = some o → (∀ n, o.data ≠ .seq vs n) → (hidT h H).get? c = some o := fun c o e ne => hidT_get e (by
    cases q : H c with
    | none => rfl
    | some u =>
      have ec := hH c (by rw [q]; exact fun z => by cases z)
      rw [ec, ho] at e
      cases e
      exact absurd rfl (ne 0))
  have ns : ∀ {c : Addr} {m : Str → Option Value}, h.Ns c m → (hidT h H).Ns c m := fun {c m} ⟨o, es, ep, e, d, r⟩ => ⟨o, es, ep, up c o e (fun n z => by rw [d] at z; cases z), d, r⟩
  obtain ⟨⟨m1, s1, t1⟩, ⟨m2, s2, t2⟩, ⟨m3, s3, t3⟩, ⟨m4, bm, ob, s4, t4, g, gc, gd⟩⟩ := x
  refine ⟨⟨m1, ns s1, t1⟩, ⟨m2, ns s2, t2⟩, ⟨m3, ns s3, t3⟩, ⟨m4, bm, ob, ns s4, t4, ?_, gc, gd⟩⟩
  refine hidT_get g ?_
  cases q : H bm with
  | none => rfl
  | some u =>
    have ec := hH bm (by rw [q]; exact fun z => by cases z)
    rw [ec, ho] at g
    have e := Option.some.inj g
    rw [← e] at gc
    have gc : Value.type "list" = Value.type "module" := gc
    injection gc with gc
    exact absurd gc (by decide)
/-- the run of a law's def over one tracking of the script -/
theorem law_over {P : Program} {w : World} {K : PySem.W.Frag} {mg mb : Str → Option Value} {k : Nat} {fa a : Addr} {fd : FuncData} {x : Str} {R : List Int → Prop} {s1 : Shared} {vs : List Value} {ns : List Int} {H : Hp}
    (kx : K.In s1.heap) (n1 : s1.heap.Ns mainGlobals mg) (n2 : s1.heap.Ns builtinsNs mb) (n3 : ∀ y : Str, y ≠ "__name__" → mb y = bootBuiltins y) (lim : s1.heap.NoLimit) (seer : s1.heap.NoSeer) (gs : s1.gens = #[])
    (ho : s1.heap.get? a = some { cls := .type "list", data := .seq vs.toArray }) (h63 : ns.length ≤ 63) (room : Room k callerA) (hR : R ns)
    (F : ∀ base : Heap, K.In base → base.Ns mainGlobals mg → base.NoSeer → FnOk P w K mg base CX0 k fa fd [x] (spLaw K R)) (bind : ∀ (s : Shared) (u : Value), BindsTo s fd ⟨[u], []⟩ [(x, u)])
    (hs : SqL K H a (ns.map V.int)) (ok : HOk P w H s1.heap) (only : ∀ c, H c ≠ none → c = a) (notK : H a ≠ none → K.lookup a = none) (froz : ∀ c u, H c = some u → ∃ o z, u = .frz o z) :
    codeAny (model P w) callerA (.call (.ref fa) ⟨[.ref a], []⟩) (fun r s' => r = .ok (.ret (.bool true)) ∧ OldK s1.heap s'.heap ∧ s'.os = s1.os ∧ AllBare s'.gens) s1 := by
  have off : ∀ (c : Addr) (o : Obj), s1.heap.get? c = some o → c ≠ a → (hidT s1.heap H).get? c = some o := fun c o e ne => hidT_get e (Classical.byContradiction fun z => ne (only c z))
  have dict : ∀ {c : Addr} {m : Str → Option Value}, s1.heap.Ns c m → (hidT s1.heap H).Ns c m := fun {c m} ⟨o, es, ep, e, d, r⟩ => ⟨o, es, ep, off c o e (fun z => by rw [z, ho] at e; cases e; cases d), d, r⟩
  have kb : K.In (hidT s1.heap H) := fun c o e => hidT_get (kx c o e) (Classical.byContradiction fun z => by
    have ec := only c z
    rw [ec] at e z
    rw [notK z] at e
    cases e)
  have lb : (hidT s1.heap H).NoLimit := let ⟨m, h1, h2⟩ := lim; ⟨m, dict h1, h2⟩
  have run := (F _ kb (dict n1) (base_seer seer ho only)).run callerA [] s1 H ⟨[.ref a], []⟩ [.ref a] [.ref a] (fun v _ => v = .bl true) (fun _ _ _ => False) room
    ⟨rfl, ⟨kb, dict n1, ⟨mb, dict n2, n3⟩, lb⟩, fun _ _ e => of_hidT e, Nat.le_of_eq (hidT_size _ _), trivial, fun _ z => (nomatch z), ok, .of_eq gs⟩ (bind s1 (.ref a)) (.cons rfl .nil) ⟨a, ns, rfl, h63, hs, hR, fun _ => rfl⟩
  refine codeAny_mono run fun r s' q => ?_
  match r, q with
  | .ok (.ret u), ⟨v, H', os, bare, un, ok', rel, e⟩ =>
    have e : v = .bl true := e
    subst e
    obtain rfl : u = Value.bool true := rel
    refine ⟨rfl, OldK.of_keep fun c o g => ?_, os, bare⟩
    cases q : H c with
    | none => exact un.keep c o g q (fun z => nomatch z) (fun z => nomatch z)
    | some y =>
      obtain ⟨ob, z, rfl⟩ := froz c y q
      have g1 := (ok c _ q).1
      have g2 := (ok' c _ (un.frzs c ob z q)).1
      rw [g] at g1
      cases g1
      exact g2
/-- .. over either: the script is an object of the module, or it is not -/
theorem law_run {P : Program} {w : World} {K : PySem.W.Frag} {mg mb : Str → Option Value} {k : Nat} {fa a : Addr} {fd : FuncData} {x : Str} {R : List Int → Prop} {s1 : Shared} {vs : List Value} {ns : List Int}
    (kx : K.In s1.heap) (n1 : s1.heap.Ns mainGlobals mg) (n2 : s1.heap.Ns builtinsNs mb) (n3 : ∀ y : Str, y ≠ "__name__" → mb y = bootBuiltins y) (lim : s1.heap.NoLimit) (seer : s1.heap.NoSeer) (gs : s1.gens = #[])
    (ho : s1.heap.get? a = some { cls := .type "list", data := .seq vs.toArray }) (hi : IntsAre vs ns) (h63 : ns.length ≤ 63) (room : Room k callerA) (hR : R ns)
    (F : ∀ base : Heap, K.In base → base.Ns mainGlobals mg → base.NoSeer → FnOk P w K mg base CX0 k fa fd [x] (spLaw K R)) (bind : ∀ (s : Shared) (u : Value), BindsTo s fd ⟨[u], []⟩ [(x, u)]) :
    codeAny (model P w) callerA (.call (.ref fa) ⟨[.ref a], []⟩) (fun r s' => r = .ok (.ret (.bool true)) ∧ OldK s1.heap s'.heap ∧ s'.os = s1.os ∧ AllBare s'.gens) s1 := by
  have rv := vals_ints hi
  have lv := hi.length
  have line : 63 ≤ sizeLine := by decide
  cases hk : K.lookup a with
  | some o =>
    have e := kx a o hk
    rw [ho] at e
    cases e
    exact law_over (H := fun _ => none) kx n1 n2 n3 lim seer gs ho h63 room hR F bind (.inr ⟨_, vs.toArray, _, hk, rfl, rfl, rfl, by rw [List.size_toArray]; omega, by simpa using rv⟩) (fun _ _ z => nomatch z) (fun _ z => absurd rfl z) (fun z => absurd rfl z) fun _ _ z => nomatch z
  | none =>
    have at_ : (upd (fun _ => none) a (.frz { cls := .type "list", data := .seq vs.toArray } (.lst (ns.map V.int))) : Hp) a = some (.frz { cls := .type "list", data := .seq vs.toArray } (.lst (ns.map V.int))) := upd_same
    have el : ∀ c u, (upd (fun _ => none) a (.frz { cls := .type "list", data := .seq vs.toArray } (.lst (ns.map V.int))) : Hp) c = some u → c = a ∧ u = .frz { cls := .type "list", data := .seq vs.toArray } (.lst (ns.map V.int)) := fun c u z => by
      by_cases ec : c = a
      · subst ec; rw [at_] at z; cases z; exact ⟨rfl, rfl⟩
      · rw [upd_ne ec] at z; cases z
    refine law_over (H := upd (fun _ => none) a (.frz { cls := .type "list", data := .seq vs.toArray } (.lst (ns.map V.int)))) kx n1 n2 n3 lim seer gs ho h63 room hR F bind (.inl (.inr ⟨_, at_⟩)) (fun c u z => ?_) (fun c z => ?_) (fun _ => hk) fun c u z => ⟨_, _, (el c u z).2⟩
    · obtain ⟨rfl, rfl⟩ := el c u z
      exact ⟨ho, by rw [List.length_map]; omega, vs, 0, rv, ho⟩
    · cases q : (upd (fun _ => none) a (.frz { cls := .type "list", data := .seq vs.toArray } (.lst (ns.map V.int))) : Hp) c with
      | none => exact absurd q z
      | some u => exact (el c u q).1
theorem walk_law {l : PySem.W.OpenLaw} {k : Nat} {q : Program} {loose : List Str} {XP : (Str → Option Value) → Heap → Prop} {YP : World → Heap → Prop} {d : DefRec} {x : Str} {R : List Int → Prop}
    (hn : l.most = some 63) (hdf : d.params.defaults = []) (room : Room k callerA) (imp : importsNone q = true) (hR : ∀ ns, ns.length ≤ 63 → R ns)
    (F : ∀ (w : World) (mg : Str → Option Value) (fa : Addr) (h : Heap), YP w h → h.Ns mainGlobals mg → mg d.name = some (.ref fa) → -- ht
      ∃ (K : PySem.W.Frag) (fd : FuncData), K.In h ∧ (∀ (s : Shared) (u : Value), BindsTo s fd ⟨[u], []⟩ [(x, u)]) ∧
        ∀ base : Heap, K.In base → base.Ns mainGlobals mg → base.NoSeer → FnOk l.prog w K mg base CX0 k fa fd [x] (spLaw K R)) :
    PySem.W.WalkO q loose XP YP l.row.toRowW d [] (fun f vs => PySem.call f vs) := -- ht
  Att.attach_call hn hdf fun w s₀ s1 mg mb fa o pm cd doc a vs ns G Y ho hd hcd hmg hobj hints hlen hg =>
    let ⟨K, fd, kx, hb, hF⟩ := F w mg fa _ Y G.T.g hmg
    law_run kx G.T.g G.T.b G.T.builtins G.T.nolimit (G.T.seer imp) hg hobj hints hlen room (hR ns hlen) hF hb
section
variable {X : Cx} {f : EF}
theorem v_callKw1 {k n : Nat} {fa : Addr} {fd : FuncData} {ps : List Str} {F : FF} {x y : Str} {p pos kpos : Pos} {e : Expr} (G : FnOk X.prog X.w X.K X.mg X.base CX0 k fa fd ps (spD X.K n F)) (hr : Room k X.A) (hg : Gl X x) (hm : X.mg x = some (.ref fa)) (hk : PySem.W.keepIn X.K (.ref fa) = true) (hb : KwAll X.K fd ps [y])
    (he : PE X e (tV X.K f)) (hall : (backToKw pos (keywordEach [⟨some y, e, kpos⟩] X.env)).all (·.1.isSome) = true := by rfl) (hks : (backToKw pos (keywordEach [⟨some y, e, kpos⟩] X.env)).filterMap (·.1) = [y] := by rfl) (hdb : (x == ("__debug__" : Str)) = false := by decide)
    (hpl : ((backTo pos (starEach [] X.env)).any (·.1) || (backToKw pos (keywordEach [⟨some y, e, kpos⟩] X.env)).any (·.1.isNone)) = false := by rfl) : PE X (.Call (.Name x p) [] [⟨some y, e, kpos⟩] pos) (tV X.K (eCallN n F (aCons f aNil))) :=
  let ⟨_, h1, h2⟩ := k_one (nm := some y) (kpos := kpos) he
  v_callKw G hr hg hm hk hb h1 h2 hall hks hdb hpl
end
/-- how a call by keywords alone binds -/
theorem kw_of {K : PySem.W.Frag} {x qual : Str} {params : Arguments} {body : List Stmt} {scope : Scope} {kws : List (Str × V)} {f : Addr} {fd : FuncData} {ps ks : List Str} (F : FunD K x qual params body scope [] kws f fd)
    (h : ∀ (kV doc pm : Value) (an : Option Addr) (cdv ct : Value) (us : List Value), us.length = ps.length → bindArgs (PySem.W.fnOf x qual params body scope .none kV doc pm an cdv ct) ⟨[], ks.zip us⟩ = pure (ps.zip us)) : KwAll K fd ps ks := by
  obtain ⟨oc, od, dV, kV, doc, pm, an, cdv, ct, osl, rfl, lk, hcd, hD, hK⟩ := F.ex -- ht
  rcases hD with ⟨_, e⟩ | ⟨e, _⟩
  · subst e
    exact ⟨fun s ws _ hl => .of_eq (h kV doc pm an cdv ct ws hl)⟩
  · exact absurd rfl e
end Ht


/-! Plain numbers: one round of Euclid's way over several rows. No program in sight. -/
namespace Mth
/-- between two rows: their numbers a, b of the column, their numbers x, y of any other place -/
def Rel (Δ a x b y : Int) : Prop := (a * y ≤ Δ ∧ -Δ ≤ a * y) ∧ (b * x ≤ Δ ∧ -Δ ≤ b * x) ∧ (a * y - b * x ≤ Δ ∧ -Δ ≤ a * y - b * x)
theorem Rel.symm {Δ a x b y : Int} (h : Rel Δ a x b y) : Rel Δ b y a x := by
  obtain ⟨⟨h1, h2⟩, ⟨h3, h4⟩, h5, h6⟩ := h
  exact ⟨⟨h3, h4⟩, ⟨h1, h2⟩, by omega, by omega⟩
theorem Rel.neg {Δ a x b y : Int} (h : Rel Δ a x b y) : Rel Δ (-a) x (-b) y := by
  obtain ⟨⟨h1, h2⟩, ⟨h3, h4⟩, h5, h6⟩ := h
  have e1 : -a * y = -(a * y) := Int.neg_mul _ _
  have e2 : -b * x = -(b * x) := Int.neg_mul _ _
  unfold Rel
  rw [e1, e2]
  omega
theorem Rel.negx {Δ a x b y : Int} (h : Rel Δ a x b y) : Rel Δ a (-x) b (-y) := by
  obtain ⟨⟨h1, h2⟩, ⟨h3, h4⟩, h5, h6⟩ := h
  have e1 : a * -y = -(a * y) := Int.mul_neg _ _
  have e2 : b * -x = -(b * x) := Int.mul_neg _ _
  unfold Rel
  rw [e1, e2]
  omega
/-- behind the round: the divisor and a row -/
theorem rel_pj {Δ a x b y q : Int} (ha : 0 < a) (hq : 0 ≤ q) (hb : 0 ≤ b - q * a) (hb2 : b - q * a < a) (h : Rel Δ a x b y) (hx : 0 ≤ x) : Rel Δ a x (b - q * a) (y - q * x) := by
  obtain ⟨⟨h1, h2⟩, ⟨h3, h4⟩, h5, h6⟩ := h
  have qa : 0 ≤ q * a := Int.mul_nonneg hq (by omega)
  have qx : 0 ≤ q * x := Int.mul_nonneg hq hx
  have bx : 0 ≤ (b - q * a) * x := Int.mul_nonneg hb hx
  have bx2 : (b - q * a) * x ≤ b * x := Int.mul_le_mul_of_nonneg_right (by omega) hx
  have e : a * (y - q * x) - (b - q * a) * x = a * y - b * x := by grind
  have aqx : 0 ≤ a * (q * x) := Int.mul_nonneg (by omega) qx
  have e2 : a * (y - q * x) = a * y - a * (q * x) := by grind
  refine ⟨⟨?_, ?_⟩, ⟨?_, ?_⟩, ?_, ?_⟩
  · omega
  · by_cases hy : 0 ≤ y - q * x
    · have : 0 ≤ a * (y - q * x) := Int.mul_nonneg (by omega) hy
      omega
    · omega
  · omega
  · omega
  · omega
  · omega
/-- .. two other rows, the first upwards, the second downwards -/
theorem rel_opp {Δ a x b y c z q r : Int} (ha : 0 < a) (hx : 0 ≤ x) (hq : 0 ≤ q) (hr : 0 ≤ r) (hb : 0 ≤ b - q * a) (hb2 : b - q * a < a) (hc : 0 ≤ c - r * a) (hc2 : c - r * a < a)
    (hab : Rel Δ a x b y) (hac : Rel Δ a x c z) (hbc : Rel Δ b y c z) (hy : 0 ≤ y - q * x) (hz : z - r * x ≤ 0) :
    (b - q * a) * (z - r * x) - (c - r * a) * (y - q * x) ≥ -Δ ∧ (b - q * a) * (z - r * x) - (c - r * a) * (y - q * x) ≤ 0 := by
  obtain ⟨⟨h1, h2⟩, ⟨h3, h4⟩, h5, h6⟩ := hab
  obtain ⟨⟨g1, g2⟩, ⟨g3, g4⟩, g5, g6⟩ := hac
  obtain ⟨⟨k1, k2⟩, ⟨k3, k4⟩, k5, k6⟩ := hbc
  generalize hB : b - q * a = B at *
  generalize hC : c - r * a = C at *
  generalize hY : y - q * x = Y at *
  generalize hZ : z - r * x = Z at *
  have eb : b = B + q * a := by omega
  have ec : c = C + r * a := by omega
  have ey : y = Y + q * x := by omega
  have ez : z = Z + r * x := by omega
  subst eb ec ey ez
  have p1 : 0 ≤ B * (-Z) := Int.mul_nonneg hb (by omega)
  have p2 : 0 ≤ C * Y := Int.mul_nonneg hc hy
  have n1 : B * -Z = -(B * Z) := Int.mul_neg _ _
  have D1 : a * (Z + r * x) - (C + r * a) * x = a * Z - C * x := by grind
  have cx : 0 ≤ C * x := Int.mul_nonneg hc hx
  refine ⟨?_, by omega⟩
  by_cases hYx : Y ≤ x
  · -- compare with the pair of the divisor and the second row
    have m1 : C * Y ≤ C * x := Int.mul_le_mul_of_nonneg_left hYx hc
    have m2 : B * (-Z) ≤ a * (-Z) := Int.mul_le_mul_of_nonneg_right (by omega) (by omega)
    have n2 : a * -Z = -(a * Z) := Int.mul_neg _ _
    omega
  · have e : (B + q * a) * (Z + r * x) - (C + r * a) * (Y + q * x) = B * Z - C * Y + q * (a * Z - C * x) + r * (B * x - a * Y) := by grind
    have m1 : B * x ≤ a * x := Int.mul_le_mul_of_nonneg_right (by omega) hx
    have m2 : a * x ≤ a * Y := Int.mul_le_mul_of_nonneg_left (by omega) (by omega)
    have m3 : 0 ≤ r * (a * Y - B * x) := Int.mul_nonneg hr (by omega)
    have n3 : r * (a * Y - B * x) = -(r * (B * x - a * Y)) := by grind
    have aZ : 0 ≤ a * (-Z) := Int.mul_nonneg (by omega) (by omega)
    have n4 : a * -Z = -(a * Z) := Int.mul_neg _ _
    have m4 : 0 ≤ q * (C * x - a * Z) := Int.mul_nonneg hq (by omega)
    have n5 : q * (C * x - a * Z) = -(q * (a * Z - C * x)) := by grind
    omega
theorem rel_bc {Δ a x b y c z q r : Int} (ha : 0 < a) (hx : 0 ≤ x) (hq : 0 ≤ q) (hr : 0 ≤ r) (hb : 0 ≤ b - q * a) (hb2 : b - q * a < a) (hc : 0 ≤ c - r * a) (hc2 : c - r * a < a)
    (hab : Rel Δ a x b y) (hac : Rel Δ a x c z) (hbc : Rel Δ b y c z) : Rel Δ (b - q * a) (y - q * x) (c - r * a) (z - r * x) := by
  have nb := rel_pj ha hq hb hb2 hab hx
  have nc := rel_pj ha hr hc hc2 hac hx
  have o1 := fun (u : 0 ≤ y - q * x) (v : z - r * x ≤ 0) => rel_opp ha hx hq hr hb hb2 hc hc2 hab hac hbc u v
  have o2 := fun (u : 0 ≤ z - r * x) (v : y - q * x ≤ 0) => rel_opp ha hx hr hq hc hc2 hb hb2 hac hab hbc.symm u v
  generalize hB : b - q * a = B at *
  generalize hC : c - r * a = C at *
  generalize hY : y - q * x = Y at *
  generalize hZ : z - r * x = Z at *
  obtain ⟨⟨b1, b2⟩, _, _⟩ := nb
  obtain ⟨⟨c1, c2⟩, _, _⟩ := nc
  -- a number below the divisor's times a place is no more than the divisor's times it
  have le : ∀ u v : Int, 0 ≤ u → u < a → a * v ≤ Δ → -Δ ≤ a * v → u * v ≤ Δ ∧ -Δ ≤ u * v := fun u v hu hua p1 p2 => by
    by_cases hv : 0 ≤ v
    · have m1 : u * v ≤ a * v := Int.mul_le_mul_of_nonneg_right (by omega) hv
      have m2 : 0 ≤ u * v := Int.mul_nonneg hu hv
      have m3 : 0 ≤ a * v := Int.mul_nonneg (by omega) hv
      omega
    · have m1 : u * (-v) ≤ a * (-v) := Int.mul_le_mul_of_nonneg_right (by omega) (by omega)
      have m2 : 0 ≤ u * (-v) := Int.mul_nonneg hu (by omega)
      have n1 : u * -v = -(u * v) := Int.mul_neg _ _
      have n2 : a * -v = -(a * v) := Int.mul_neg _ _
      omega
  have l1 := le B Z hb hb2 c1 c2
  have l2 := le C Y hc hc2 b1 b2
  refine ⟨l1, l2, ?_⟩
  by_cases hy : 0 ≤ Y
  · by_cases hz : 0 ≤ Z
    · have m1 : 0 ≤ B * Z := Int.mul_nonneg hb hz
      have m2 : 0 ≤ C * Y := Int.mul_nonneg hc hy
      omega
    · have := o1 hy (by omega)
      omega
  · by_cases hz : 0 ≤ Z
    · have := o2 hz (by omega)
      omega
    · have m1 : 0 ≤ B * (-Z) := Int.mul_nonneg hb (by omega)
      have m2 : 0 ≤ C * (-Y) := Int.mul_nonneg hc (by omega)
      have n1 : B * -Z = -(B * Z) := Int.mul_neg _ _
      have n2 : C * -Y = -(C * Y) := Int.mul_neg _ _
      omega
end Mth


/-! Plain numbers: a round over lists of lines. -/
namespace Mth
/-! ### floors -/
theorem fm_eq (b a : Int) : b - b.fdiv a * a = b.fmod a := by
  have := Int.mul_fdiv_add_fmod b a
  have e : b.fdiv a * a = a * b.fdiv a := Int.mul_comm _ _
  omega
theorem fd_neg (b a : Int) : (-b).fdiv (-a) = b.fdiv a := Int.neg_fdiv_neg b a
theorem fm_pos {b a : Int} (ha : 0 < a) : 0 ≤ b - b.fdiv a * a ∧ b - b.fdiv a * a < a := by
  rw [fm_eq]
  exact ⟨Int.fmod_nonneg_of_pos b ha, Int.fmod_lt_of_pos b ha⟩
theorem fm_negd {b a : Int} (ha : a < 0) : a < b - b.fdiv a * a ∧ b - b.fdiv a * a ≤ 0 := by
  have h := fm_pos (b := -b) (a := -a) (by omega)
  rw [fd_neg] at h
  have e : b.fdiv a * -a = -(b.fdiv a * a) := Int.mul_neg _ _
  omega
theorem fd_nonneg {b a : Int} (h : (0 < a ∧ 0 ≤ b) ∨ (a < 0 ∧ b ≤ 0)) : 0 ≤ b.fdiv a := by
  rcases h with ⟨h1, h2⟩ | ⟨h1, h2⟩ -- ht
  · exact Int.fdiv_nonneg h2 (by omega)
  · rw [← fd_neg]
    exact Int.fdiv_nonneg (by omega) (by omega)
/-- one sign -/
def Sg (a b : Int) : Prop := (0 < a ∧ 0 < b) ∨ (a < 0 ∧ b < 0)
theorem round1p {Δ a x b y : Int} (ha : 0 < a) (hb : 0 < b) (h : Rel Δ a x b y) : Rel Δ a x (b - b.fdiv a * a) (y - b.fdiv a * x) := by
  have hq : 0 ≤ b.fdiv a := fd_nonneg (.inl ⟨ha, by omega⟩)
  obtain ⟨f1, f2⟩ := fm_pos (b := b) ha
  by_cases hx : 0 ≤ x
  · exact rel_pj ha hq f1 f2 h hx
  · have := rel_pj (x := -x) (y := -y) ha hq f1 f2 h.negx (by omega)
    have z := this.negx
    have e : -(-y - b.fdiv a * -x) = y - b.fdiv a * x := by grind
    rw [e, Int.neg_neg] at z
    exact z
theorem round1 {Δ a x b y : Int} (h0 : Sg a b) (h : Rel Δ a x b y) : Rel Δ a x (b - b.fdiv a * a) (y - b.fdiv a * x) := by
  rcases h0 with ⟨ha, hb⟩ | ⟨ha, hb⟩
  · exact round1p ha hb h
  · have z := (round1p (a := -a) (b := -b) (by omega) (by omega) h.neg).neg
    rw [fd_neg] at z
    have e : -(-b - b.fdiv a * -a) = b - b.fdiv a * a := by grind
    rw [e, Int.neg_neg] at z
    exact z
theorem round2p {Δ a x b y c z : Int} (ha : 0 < a) (hb : 0 < b) (hc : 0 < c) (hab : Rel Δ a x b y) (hac : Rel Δ a x c z) (hbc : Rel Δ b y c z) :
    Rel Δ (b - b.fdiv a * a) (y - b.fdiv a * x) (c - c.fdiv a * a) (z - c.fdiv a * x) := by
  have hq : 0 ≤ b.fdiv a := fd_nonneg (.inl ⟨ha, by omega⟩)
  have hr : 0 ≤ c.fdiv a := fd_nonneg (.inl ⟨ha, by omega⟩)
  obtain ⟨f1, f2⟩ := fm_pos (b := b) ha
  obtain ⟨f3, f4⟩ := fm_pos (b := c) ha
  by_cases hx : 0 ≤ x
  · exact rel_bc ha hx hq hr f1 f2 f3 f4 hab hac hbc
  · have w := (rel_bc (x := -x) (y := -y) (z := -z) ha (by omega) hq hr f1 f2 f3 f4 hab.negx hac.negx hbc.negx).negx
    have e : -(-y - b.fdiv a * -x) = y - b.fdiv a * x := by grind
    have e2 : -(-z - c.fdiv a * -x) = z - c.fdiv a * x := by grind
    rw [e, e2] at w
    exact w
theorem round2 {Δ a x b y c z : Int} (h1 : Sg a b) (h2 : Sg a c) (hab : Rel Δ a x b y) (hac : Rel Δ a x c z) (hbc : Rel Δ b y c z) :
    Rel Δ (b - b.fdiv a * a) (y - b.fdiv a * x) (c - c.fdiv a * a) (z - c.fdiv a * x) := by
  by_cases ha : 0 < a
  · have hb : 0 < b := by unfold Sg at h1; omega
    have hc : 0 < c := by unfold Sg at h2; omega
    exact round2p ha hb hc hab hac hbc
  · have hb : b < 0 := by unfold Sg at h1; omega
    have hc : c < 0 := by unfold Sg at h2; omega
    have ha' : a < 0 := by unfold Sg at h1; omega
    have w := (round2p (a := -a) (b := -b) (c := -c) (by omega) (by omega) (by omega) hab.neg hac.neg hbc.neg).neg
    rw [fd_neg, fd_neg] at w
    have e : -(-b - b.fdiv a * -a) = b - b.fdiv a * a := by grind
    have e2 : -(-c - c.fdiv a * -a) = c - c.fdiv a * a := by grind
    rw [e, e2] at w
    exact w
/-! ### sizes -/
def Sm (M x : Int) : Prop := -M ≤ x ∧ x ≤ M
theorem Sm.mono {M N x : Int} (h : Sm M x) (hl : M ≤ N) : Sm N x := by unfold Sm at *; omega
theorem sm_mul {M N x y : Int} (hx : Sm M x) (hy : Sm N y) : Sm (M * N) (x * y) := by
  obtain ⟨h1, h2⟩ := hx
  obtain ⟨h3, h4⟩ := hy
  have key : ∀ u v : Int, 0 ≤ u → u ≤ M → 0 ≤ v → v ≤ N → u * v ≤ M * N := fun u v a b c d => Int.mul_le_mul b d c (by omega)
  unfold Sm
  by_cases hx : 0 ≤ x <;> by_cases hy : 0 ≤ y -- ht
  · have := key x y hx h2 hy h4
    have := Int.mul_nonneg hx hy
    omega
  · have := key x (-y) hx h2 (by omega) (by omega)
    have := Int.mul_nonneg hx (show 0 ≤ -y by omega)
    have e : x * -y = -(x * y) := Int.mul_neg _ _
    omega
  · have := key (-x) y (by omega) (by omega) hy h4
    have := Int.mul_nonneg (show 0 ≤ -x by omega) hy
    have e : -x * y = -(x * y) := Int.neg_mul _ _
    omega
  · have := key (-x) (-y) (by omega) (by omega) (by omega) (by omega)
    have := Int.mul_nonneg (show 0 ≤ -x by omega) (show 0 ≤ -y by omega)
    have e : -x * -y = x * y := Int.neg_mul_neg _ _
    omega
theorem sm_sub {M N x y : Int} (hx : Sm M x) (hy : Sm N y) : Sm (M + N) (x - y) := by unfold Sm at *; omega
theorem sm_sub' {M x y : Int} (hx : Sm M x) (hy : Sm M y) : Sm (2 * M) (x - y) := by unfold Sm at *; omega
/-- the quotient by no 0 -/
theorem fd_small {M b a : Int} (hb : Sm M b) (h0 : a ≠ 0) (hM : 0 ≤ M) : Sm M (b.fdiv a) := by
  have key : ∀ b a : Int, Sm M b → 0 < a → Sm M (b.fdiv a) := fun b a hb ha => by
    obtain ⟨f1, f2⟩ := fm_pos (b := b) ha
    unfold Sm at *
    constructor
    · refine Classical.byContradiction fun h => ?_
      have hq : b.fdiv a ≤ -M - 1 := by omega
      have m1 : b.fdiv a * a ≤ b.fdiv a * 1 := Int.mul_le_mul_of_nonpos_left (by omega) (by omega)
      rw [Int.mul_one] at m1
      have m2 : (-(b.fdiv a) - 1) * 1 ≤ (-(b.fdiv a) - 1) * a := Int.mul_le_mul_of_nonneg_left (by omega) (by omega)
      have e : (-(b.fdiv a) - 1) * a = -(b.fdiv a * a) - a := by grind
      omega
    · refine Classical.byContradiction fun h => ?_
      have m1 : (b.fdiv a) * 1 ≤ (b.fdiv a) * a := Int.mul_le_mul_of_nonneg_left (by omega) (by omega)
      omega
  by_cases ha : 0 < a
  · exact key b a hb ha
  · rw [← fd_neg]
    exact key (-b) (-a) (by unfold Sm at *; omega) (by omega)
/-- any signs: behind the first round -/
theorem quot_bd {M b a : Int} (hb : Sm M b) (ha : Sm M a) (h0 : a ≠ 0) : Sm (2 * M) (b.fdiv a * a) ∧ Sm M (b - b.fdiv a * a) := by
  by_cases hp : 0 < a
  · have := fm_pos (b := b) hp
    unfold Sm at *
    omega
  · have := fm_negd (b := b) (a := a) (by omega)
    unfold Sm at *
    omega
/-- what is asked of the first round -/
theorem first_sm {M a x b y : Int} (hM : 1 ≤ M) (ha : Sm M a) (hx : Sm M x) (hb : Sm M b) (hy : Sm M y) (h0 : a ≠ 0) : Sm (6 * (M * M)) (y - b.fdiv a * x) ∧ Sm (3 * (M * M)) (a * (y - b.fdiv a * x)) := by
  have hq := fd_small hb h0 (by omega)
  have h1 := sm_mul hq hx
  have h2 := sm_sub hy h1
  have MM : M * 1 ≤ M * M := Int.mul_le_mul_of_nonneg_left hM (by omega)
  refine ⟨h2.mono (by omega), ?_⟩
  obtain ⟨q1, _⟩ := quot_bd hb ha h0
  have g1 := sm_mul q1 hx
  have g2 := sm_mul ha hy
  have e : a * (y - b.fdiv a * x) = a * y - b.fdiv a * a * x := by grind
  rw [e]
  have e2 : 2 * M * M = 2 * (M * M) := by grind
  rw [e2] at g1
  exact (sm_sub g2 g1).mono (by omega)
/-- the rest of a number times any place -/
theorem rest_sm {B a u v : Int} (hu : (0 < a ∧ 0 ≤ u ∧ u < a) ∨ (a < 0 ∧ a < u ∧ u ≤ 0)) (h : Sm B (a * v)) : Sm B (u * v) := by
  have key : ∀ a u v : Int, 0 ≤ u → u < a → Sm B (a * v) → Sm B (u * v) := fun a u v h1 h2 h => by
    unfold Sm at *
    by_cases hv : 0 ≤ v
    · have m1 : u * v ≤ a * v := Int.mul_le_mul_of_nonneg_right (by omega) hv
      have m2 : 0 ≤ u * v := Int.mul_nonneg h1 hv
      omega
    · have m1 : u * (-v) ≤ a * (-v) := Int.mul_le_mul_of_nonneg_right (by omega) (by omega)
      have m2 : 0 ≤ u * (-v) := Int.mul_nonneg h1 (by omega)
      have n1 : u * -v = -(u * v) := Int.mul_neg _ _
      have n2 : a * -v = -(a * v) := Int.mul_neg _ _
      omega
  rcases hu with ⟨_, h1, h2⟩ | ⟨_, h1, h2⟩
  · exact key a u v h1 h2 h
  · have n2 : -a * v = -(a * v) := Int.neg_mul _ _
    have n3 : -u * v = -(u * v) := Int.neg_mul _ _
    have := key (-a) (-u) v (by omega) (by omega) (by rw [n2]; unfold Sm at *; omega)
    rw [n3] at this
    unfold Sm at *
    omega
theorem fm_cases (b : Int) {a : Int} (h0 : a ≠ 0) : (0 < a ∧ 0 ≤ b - b.fdiv a * a ∧ b - b.fdiv a * a < a) ∨ (a < 0 ∧ a < b - b.fdiv a * a ∧ b - b.fdiv a * a ≤ 0) := by
  by_cases hp : 0 < a
  · exact .inl ⟨hp, fm_pos hp⟩
  · exact .inr ⟨by omega, fm_negd (by omega)⟩
theorem Rel.of {Δ a x b y : Int} (h1 : Sm Δ (a * y)) (h2 : Sm Δ (b * x)) (h3 : Sm Δ (a * y - b * x)) : Rel Δ a x b y := ⟨⟨h1.2, h1.1⟩, ⟨h2.2, h2.1⟩, h3.2, h3.1⟩
theorem first_pj {M a x b y : Int} (hM : 1 ≤ M) (ha : Sm M a) (hx : Sm M x) (hb : Sm M b) (hy : Sm M y) (h0 : a ≠ 0) : Rel (6 * (M * M)) a x (b - b.fdiv a * a) (y - b.fdiv a * x) := by
  obtain ⟨_, h2⟩ := first_sm hM ha hx hb hy h0
  have h3 : Sm (M * M) ((b - b.fdiv a * a) * x) := rest_sm (fm_cases b h0) (sm_mul ha hx)
  have MM : 0 ≤ M * M := Int.mul_nonneg (by omega) (by omega)
  exact .of (h2.mono (by omega)) (h3.mono (by omega)) ((sm_sub h2 h3).mono (by omega))
theorem first_bc {M a x b y c z : Int} (hM : 1 ≤ M) (ha : Sm M a) (hx : Sm M x) (hb : Sm M b) (hy : Sm M y) (hc : Sm M c) (hz : Sm M z) (h0 : a ≠ 0) :
    Rel (6 * (M * M)) (b - b.fdiv a * a) (y - b.fdiv a * x) (c - c.fdiv a * a) (z - c.fdiv a * x) := by
  obtain ⟨_, h1⟩ := first_sm hM ha hx hb hy h0
  obtain ⟨_, h2⟩ := first_sm hM ha hx hc hz h0
  have h3 := rest_sm (fm_cases b h0) h2
  have h4 := rest_sm (fm_cases c h0) h1
  have MM : 0 ≤ M * M := Int.mul_nonneg (by omega) (by omega)
  exact .of (h3.mono (by omega)) (h4.mono (by omega)) ((sm_sub h3 h4).mono (by omega))
end Mth


/-! Plain lists of lines: rows with their makers; one column gathered. -/
namespace Mth
abbrev Ln := List Int × List Int
def lessM (r : List Int) (t : Int) (o : List Int) : List Int := List.zipWith (fun x y => x - t * y) r o
def subL (b : Ln) (t : Int) (a : Ln) : Ln := (lessM b.1 t a.1, lessM b.2 t a.2)
def negL (a : Ln) : Ln := (a.1.map (- ·), a.2.map (- ·))
def Dim (d n : Nat) (l : Ln) : Prop := l.1.length = d ∧ l.2.length = n
/-- a place: of the row, of the maker -/
def val (s : Bool × Nat) (l : Ln) : Int := match s.1 with
  | true => l.1.getD s.2 0
  | false => l.2.getD s.2 0
def col (j : Nat) (l : Ln) : Int := l.1.getD j 0
theorem lessM_length {r o : List Int} {t : Int} (h : r.length = o.length) : (lessM r t o).length = r.length := by
  unfold lessM
  rw [List.length_zipWith]
  omega
theorem lessM_get {r o : List Int} {t : Int} (h : r.length = o.length) (k : Nat) : (lessM r t o).getD k 0 = r.getD k 0 - t * o.getD k 0 := by
  unfold lessM
  rw [List.getD_eq_getElem?_getD, List.getD_eq_getElem?_getD, List.getD_eq_getElem?_getD, List.getElem?_zipWith]
  by_cases hk : k < r.length
  · rw [List.getElem?_eq_getElem hk, List.getElem?_eq_getElem (by omega)]
    rfl
  · rw [List.getElem?_eq_none (by omega), List.getElem?_eq_none (by omega)]
    simp
theorem val_sub {d n : Nat} {a b : Ln} {t : Int} (ha : Dim d n a) (hb : Dim d n b) (s : Bool × Nat) : val s (subL b t a) = val s b - t * val s a := by
  obtain ⟨k, i⟩ := s
  cases k
  · exact lessM_get (hb.2.trans ha.2.symm) i
  · exact lessM_get (hb.1.trans ha.1.symm) i
theorem dim_sub {d n : Nat} {a b : Ln} {t : Int} (ha : Dim d n a) (hb : Dim d n b) : Dim d n (subL b t a) :=
  ⟨(lessM_length (hb.1.trans ha.1.symm)).trans hb.1, (lessM_length (hb.2.trans ha.2.symm)).trans hb.2⟩
theorem val_neg (a : Ln) (s : Bool × Nat) : val s (negL a) = -val s a := by
  have key : ∀ (l : List Int) (i : Nat), (l.map (- ·)).getD i 0 = -(l.getD i 0) := fun l i => by
    rw [List.getD_eq_getElem?_getD, List.getD_eq_getElem?_getD, List.getElem?_map] -- ht
    cases l[i]? <;> simp
  obtain ⟨k, i⟩ := s
  cases k
  · exact key a.2 i
  · exact key a.1 i
theorem dim_neg {d n : Nat} {a : Ln} (h : Dim d n a) : Dim d n (negL a) := ⟨by simp [negL, h.1], by simp [negL, h.2]⟩
def Bd (M : Int) (l : Ln) : Prop := ∀ s, Sm M (val s l)
theorem Bd.mono {M N : Int} {l : Ln} (h : Bd M l) (hl : M ≤ N) : Bd N l := fun s => (h s).mono hl
theorem bd_neg {M : Int} {l : Ln} (h : Bd M l) : Bd M (negL l) := fun s => by
  have := h s
  rw [val_neg]
  unfold Sm at *
  omega
/-! ### what stays under the steps -/
structure El (Q : List Ln → Prop) : Prop where
  perm : ∀ {l m : List Ln}, l.Perm m → Q l → Q m
  op : ∀ (a b : Ln) (t : Int) (tl : List Ln), Q (a :: b :: tl) → Q (a :: subL b t a :: tl)
  neg : ∀ (a : Ln) (tl : List Ln), Q (a :: tl) → Q (negL a :: tl)
theorem El.many {Q : List Ln → Prop} (E : El Q) (a : Ln) (t : Ln → Int) : ∀ (bs tl : List Ln), Q (a :: (bs ++ tl)) → Q (a :: (bs.map (fun b => subL b (t b) a) ++ tl))
  | [], _, h => h
  | b :: bs, tl, h => by
    have h1 := E.op a b (t b) _ h
    have h2 : Q (a :: (bs ++ (subL b (t b) a :: tl))) := E.perm ((List.perm_middle.symm).cons a) h1
    have h3 := E.many a t bs _ h2
    exact E.perm ((List.perm_middle).cons a) h3
/-! ### a round -/
def redL (j : Nat) (p l : Ln) : Ln := subL l ((col j l).fdiv (col j p)) p
def Two (Δ : Int) (j : Nat) (p q : Ln) : Prop := Sg (col j p) (col j q) ∧ ∀ s, Rel Δ (col j p) (val s p) (col j q) (val s q)
theorem Sg.symm {a b : Int} (h : Sg a b) : Sg b a := by unfold Sg at *; omega
theorem Two.symm {Δ : Int} {j : Nat} {p q : Ln} (h : Two Δ j p q) : Two Δ j q p := ⟨h.1.symm, fun s => (h.2 s).symm⟩
abbrev Good (Δ : Int) (j : Nat) (L : List Ln) : Prop := L.Pairwise (Two Δ j)
theorem Good.perm {Δ : Int} {j : Nat} {L M : List Ln} (h : Good Δ j L) (p : L.Perm M) : Good Δ j M := (p.pairwise_iff fun h => h.symm).mp h
theorem col_val (j : Nat) (l : Ln) : col j l = val (true, j) l := rfl
theorem col_red {d n j : Nat} {p l : Ln} (hp : Dim d n p) (hl : Dim d n l) : col j (redL j p l) = col j l - (col j l).fdiv (col j p) * col j p := val_sub hp hl (true, j)
theorem val_red {d n j : Nat} {p l : Ln} (hp : Dim d n p) (hl : Dim d n l) (s : Bool × Nat) : val s (redL j p l) = val s l - (col j l).fdiv (col j p) * val s p := val_sub hp hl s
theorem sm_of_mul {Δ a v : Int} (h0 : a ≠ 0) (h : Sm Δ (a * v)) : Sm Δ v := by
  have key : ∀ a v : Int, 0 < a → Sm Δ (a * v) → Sm Δ v := fun a v ha h => by
    unfold Sm at *
    by_cases hv : 0 ≤ v
    · have m1 : 1 * v ≤ a * v := Int.mul_le_mul_of_nonneg_right (by omega) hv
      omega
    · have m1 : 1 * -v ≤ a * -v := Int.mul_le_mul_of_nonneg_right (by omega) (by omega)
      have n2 : a * -v = -(a * v) := Int.mul_neg _ _
      omega
  by_cases ha : 0 < a
  · exact key a v ha h
  · refine key (-a) v (by omega) ?_
    have n2 : -a * v = -(a * v) := Int.neg_mul _ _
    rw [n2]
    unfold Sm at *
    omega
theorem red_lt {b a : Int} (h0 : a ≠ 0) : (b - b.fdiv a * a).natAbs < a.natAbs := by
  rcases fm_cases b h0 with ⟨h1, h2, h3⟩ | ⟨h1, h2, h3⟩ <;> omega
theorem red_sg {b a : Int} (h0 : a ≠ 0) (hr : b - b.fdiv a * a ≠ 0) : Sg a (b - b.fdiv a * a) := by
  unfold Sg
  rcases fm_cases b h0 with ⟨h1, h2, h3⟩ | ⟨h1, h2, h3⟩ <;> omega
theorem two_sg {a b c : Int} (h1 : Sg a b) (h2 : Sg a c) : Sg b c := by unfold Sg at *; omega
/-- the loop's promise -/
structure Loop (M : Int) (d n j : Nat) (left others : List Ln) : Prop where
  dl : ∀ l ∈ left, Dim d n l ∧ col j l ≠ 0
  do_ : ∀ l ∈ others, Dim d n l ∧ col j l = 0 ∧ Bd (6 * (M * M)) l
  bd : (∀ l ∈ left, Bd M l) ∨ (Good (6 * (M * M)) j left ∧ ∀ l ∈ left, Bd (6 * (M * M)) l)
def nz (j : Nat) (l : Ln) : Bool := decide (col j l ≠ 0)
def zr (j : Nat) (l : Ln) : Bool := decide (col j l = 0)
theorem m_le {M : Int} (hM : 1 ≤ M) : M ≤ 6 * (M * M) := by
  have MM : M * 1 ≤ M * M := Int.mul_le_mul_of_nonneg_left hM (by omega)
  omega
theorem pair_map {R S : Ln → Ln → Prop} {f : Ln → Ln} {l : List Ln} (h : l.Pairwise R) (hm : ∀ a ∈ l, ∀ b ∈ l, R a b → S (f a) (f b)) : (l.map f).Pairwise S := by
  rw [List.pairwise_map]
  exact List.Pairwise.imp_of_mem (fun {a b} ha hb r => hm a ha b hb r) h
theorem Loop.round {M : Int} {d n j : Nat} {left others rest : List Ln} {p : Ln} (hM : 1 ≤ M) (h : Loop M d n j left others) (hp : left.Perm (p :: rest)) :
    Loop M d n j (p :: (rest.map (redL j p)).filter (nz j)) (others ++ (rest.map (redL j p)).filter (zr j)) := by
  have dp := h.dl p (hp.mem_iff.mpr List.mem_cons_self)
  have dr : ∀ l ∈ rest, Dim d n l ∧ col j l ≠ 0 := fun l hl => h.dl l (hp.mem_iff.mpr (List.mem_cons_of_mem _ hl))
  have MM : 0 ≤ M * M := Int.mul_nonneg (by omega) (by omega)
  -- each row of the round is small, stands well with the divisor; two of them with one another
  have key : (∀ l ∈ rest, Bd (6 * (M * M)) (redL j p l) ∧ ∀ s, Rel (6 * (M * M)) (col j p) (val s p) (col j (redL j p l)) (val s (redL j p l))) ∧
      ((rest.map (redL j p)).Pairwise fun a b => ∀ s, Rel (6 * (M * M)) (col j a) (val s a) (col j b) (val s b)) ∧ Bd (6 * (M * M)) p := by
    rcases h.bd with hb | ⟨hg, hb⟩
    · have bp := hb p (hp.mem_iff.mpr List.mem_cons_self)
      have br : ∀ l ∈ rest, Bd M l := fun l hl => hb l (hp.mem_iff.mpr (List.mem_cons_of_mem _ hl))
      refine ⟨fun l hl => ⟨fun s => ?_, fun s => ?_⟩, ?_, bp.mono (m_le hM)⟩
      · rw [val_red dp.1 (dr l hl).1]
        exact (first_sm hM (bp (true, j)) (bp s) (br l hl (true, j)) (br l hl s) dp.2).1
      · rw [val_red dp.1 (dr l hl).1, col_red dp.1 (dr l hl).1]
        exact first_pj hM (bp (true, j)) (bp s) (br l hl (true, j)) (br l hl s) dp.2
      · refine pair_map (R := fun _ _ => True) (List.pairwise_of_forall fun _ _ => True.intro) fun a ha b hb _ s => ?_
        rw [val_red dp.1 (dr a ha).1, col_red dp.1 (dr a ha).1, val_red dp.1 (dr b hb).1, col_red dp.1 (dr b hb).1]
        exact first_bc hM (bp (true, j)) (bp s) (br a ha (true, j)) (br a ha s) (br b hb (true, j)) (br b hb s) dp.2
    · have hg' := List.pairwise_cons.mp (hg.perm hp)
      have bp := hb p (hp.mem_iff.mpr List.mem_cons_self)
      have pj : ∀ l ∈ rest, ∀ s, Rel (6 * (M * M)) (col j p) (val s p) (col j (redL j p l)) (val s (redL j p l)) := fun l hl s => by
        rw [val_red dp.1 (dr l hl).1, col_red dp.1 (dr l hl).1]
        exact round1 (hg'.1 l hl).1 ((hg'.1 l hl).2 s)
      refine ⟨fun l hl => ⟨fun s => ?_, pj l hl⟩, ?_, bp⟩
      · obtain ⟨⟨z1, z2⟩, _, _⟩ := pj l hl s
        exact sm_of_mul dp.2 ⟨z2, z1⟩
      · refine pair_map hg'.2 fun a ha b hb t s => ?_
        rw [val_red dp.1 (dr a ha).1, col_red dp.1 (dr a ha).1, val_red dp.1 (dr b hb).1, col_red dp.1 (dr b hb).1]
        exact round2 (hg'.1 a ha).1 (hg'.1 b hb).1 ((hg'.1 a ha).2 s) ((hg'.1 b hb).2 s) (t.2 s)
  obtain ⟨k1, k2, k3⟩ := key
  have inN : ∀ l ∈ (rest.map (redL j p)).filter (nz j), ∃ b ∈ rest, l = redL j p b ∧ col j l ≠ 0 := fun l hl => by
    obtain ⟨h1, h2⟩ := List.mem_filter.mp hl
    obtain ⟨b, hb, rfl⟩ := List.mem_map.mp h1
    exact ⟨b, hb, rfl, of_decide_eq_true h2⟩
  refine ⟨fun l hl => ?_, fun l hl => ?_, .inr ⟨?_, fun l hl => ?_⟩⟩
  · rcases List.mem_cons.mp hl with e | hl
    · subst e; exact dp
    · obtain ⟨b, hb, rfl, hz⟩ := inN l hl
      exact ⟨dim_sub dp.1 (dr b hb).1, hz⟩
  · rcases List.mem_append.mp hl with hl | hl
    · exact h.do_ l hl
    · obtain ⟨h1, h2⟩ := List.mem_filter.mp hl
      obtain ⟨b, hb, rfl⟩ := List.mem_map.mp h1
      exact ⟨dim_sub dp.1 (dr b hb).1, of_decide_eq_true h2, (k1 b hb).1⟩
  · have sg : ∀ l ∈ (rest.map (redL j p)).filter (nz j), Sg (col j p) (col j l) := fun l hl => by
      obtain ⟨b, hb, rfl, hz⟩ := inN l hl
      rw [col_red dp.1 (dr b hb).1] at hz ⊢
      exact red_sg dp.2 hz
    refine List.pairwise_cons.mpr ⟨fun l hl => ⟨sg l hl, ?_⟩, ?_⟩
    · obtain ⟨b, hb, rfl, _⟩ := inN l hl
      exact (k1 b hb).2
    · refine List.Pairwise.imp_of_mem (fun {a b} ha hb r => ⟨two_sg (sg a ha) (sg b hb), r⟩) (k2.filter _)
  · rcases List.mem_cons.mp hl with e | hl
    · subst e; exact k3
    · obtain ⟨b, hb, rfl, _⟩ := inN l hl
      exact (k1 b hb).1
/-- what is left to do falls -/
def mu (j : Nat) (L : List Ln) : Nat := (L.map fun l => (col j l).natAbs).sum
theorem mu_perm {j : Nat} {L M : List Ln} (h : L.Perm M) : mu j L = mu j M := (h.map _).sum_nat
theorem mu_filter (j : Nat) (q : Ln → Bool) : ∀ L : List Ln, mu j (L.filter q) ≤ mu j L
  | [] => Nat.le_refl _
  | l :: L => by
    have := mu_filter j q L
    rw [List.filter_cons]
    cases q l
    · simp only [Bool.false_eq_true, if_false] -- ht
      show _ ≤ (col j l).natAbs + mu j L
      omega
    · simp only [if_true]
      show (col j l).natAbs + mu j (L.filter q) ≤ (col j l).natAbs + mu j L
      omega
theorem mu_red {d n j : Nat} {p : Ln} (hp : Dim d n p) (h0 : col j p ≠ 0) : ∀ rest : List Ln, (∀ l ∈ rest, Dim d n l ∧ (col j p).natAbs ≤ (col j l).natAbs) → mu j (rest.map (redL j p)) + rest.length ≤ mu j rest
  | [], _ => Nat.le_refl _
  | l :: rest, h => by
    have ih := mu_red hp h0 rest fun x hx => h x (List.mem_cons_of_mem _ hx)
    obtain ⟨h1, h2⟩ := h l List.mem_cons_self
    have h3 := red_lt (b := col j l) h0
    show (col j (redL j p l)).natAbs + mu j (rest.map (redL j p)) + (rest.length + 1) ≤ (col j l).natAbs + mu j rest
    rw [col_red hp h1]
    omega
theorem filter_split (j : Nat) (L : List Ln) : (L.filter (nz j) ++ L.filter (zr j)).Perm L := by
  have e : L.filter (zr j) = L.filter (fun l => !nz j l) := by
    congr 1
    funext l
    unfold zr nz
    by_cases h : col j l = 0 <;> simp [h]
  rw [e]
  exact List.filter_append_perm _ _
theorem El.round {Q : List Ln → Prop} (E : El Q) {j : Nat} {left others rest tl : List Ln} {p : Ln} (hp : left.Perm (p :: rest)) (h : Q (left ++ others ++ tl)) :
    Q ((p :: (rest.map (redL j p)).filter (nz j)) ++ (others ++ (rest.map (redL j p)).filter (zr j)) ++ tl) := by
  have h1 : Q (p :: (rest ++ (others ++ tl))) := E.perm (by
    rw [List.append_assoc]
    exact hp.append_right _) h
  have h2 := E.many p (fun l => (col j l).fdiv (col j p)) rest (others ++ tl) h1
  refine E.perm ?_ h2
  rw [List.cons_append, List.cons_append]
  refine List.Perm.cons p ?_
  show (rest.map (redL j p) ++ (others ++ tl)).Perm _
  refine ((filter_split j (rest.map (redL j p))).symm.append_right _).trans ?_
  rw [List.append_assoc, List.append_assoc, List.append_assoc] -- ht
  refine List.Perm.append_left _ ?_ -- ht
  rw [← List.append_assoc, ← List.append_assoc] -- ht
  exact List.perm_append_comm.append_right _
end Mth


/-! Plain algebra of lines: sums, what makers make, generation, duals. -/
namespace Mth
/-! ### sums -/
def dotN : Nat → (Nat → Int) → (Nat → Int) → Int
  | 0, _, _ => 0
  | n + 1, u, v => dotN n u v + u n * v n
theorem dot_sub (n : Nat) (u v w : Nat → Int) (t : Int) : dotN n (fun k => u k - t * v k) w = dotN n u w - t * dotN n v w := by
  induction n with
  | zero => simp [dotN]
  | succ n ih => simp only [dotN, ih]; grind
theorem dot_add (n : Nat) (u v w : Nat → Int) (t : Int) : dotN n u (fun k => v k + t * w k) = dotN n u v + t * dotN n u w := by
  induction n with
  | zero => simp [dotN]
  | succ n ih => simp only [dotN, ih]; grind
theorem dot_addL (n : Nat) (u v w : Nat → Int) (t : Int) : dotN n (fun k => u k + t * v k) w = dotN n u w + t * dotN n v w := by
  induction n with
  | zero => simp [dotN]
  | succ n ih => simp only [dotN, ih]; grind
theorem dot_neg (n : Nat) (u w : Nat → Int) : dotN n (fun k => -u k) w = -dotN n u w := by
  induction n with
  | zero => simp [dotN]
  | succ n ih => simp only [dotN, ih]; grind
theorem dot_negR (n : Nat) (u w : Nat → Int) : dotN n u (fun k => -w k) = -dotN n u w := by
  induction n with
  | zero => simp [dotN]
  | succ n ih => simp only [dotN, ih]; grind
theorem dot_congr {n : Nat} {u u' v v' : Nat → Int} (h1 : ∀ k, k < n → u k = u' k) (h2 : ∀ k, k < n → v k = v' k) : dotN n u v = dotN n u' v' := by
  induction n with
  | zero => rfl
  | succ n ih =>
    simp only [dotN]
    rw [ih (fun k hk => h1 k (by omega)) (fun k hk => h2 k (by omega)), h1 n (by omega), h2 n (by omega)]
theorem dot_zero (n : Nat) (w : Nat → Int) : dotN n (fun _ => 0) w = 0 := by
  induction n with
  | zero => rfl
  | succ n ih => simp only [dotN, ih]; simp
def un (i : Nat) : Nat → Int := fun k => if i = k then 1 else 0
theorem dot_un {n i : Nat} (w : Nat → Int) : dotN n (un i) w = if i < n then w i else 0 := by
  induction n with
  | zero => rfl
  | succ n ih =>
    simp only [dotN, ih, un]
    by_cases h : i = n
    · subst h; simp
    · by_cases h2 : i < n
      · rw [if_pos h2, if_neg h, if_pos (by omega)]; simp
      · rw [if_neg h2, if_neg h, if_neg (by omega)]; simp
theorem dot_comm (n : Nat) (u v : Nat → Int) : dotN n u v = dotN n v u := by
  induction n with
  | zero => rfl
  | succ n ih => simp only [dotN, ih, Int.mul_comm]
/-- the sums in the other order -/
theorem dot_swap (n m : Nat) (u v : Nat → Int) (A : Nat → Nat → Int) : dotN n u (fun t => dotN m (fun k => A t k) v) = dotN m (fun k => dotN n u (fun t => A t k)) v := by
  induction n with
  | zero => simp only [dotN]; exact (dot_zero m v).symm
  | succ n ih =>
    simp only [dotN, ih]
    have := dot_addL m (fun k => dotN n u fun t => A t k) (fun k => A n k) v (u n)
    rw [← this]
/-! ### what is linear stays 0 -/
structure Lin (d n : Nat) (φ : Ln → Int) : Prop where
  sub : ∀ a b t, Dim d n a → Dim d n b → φ (subL b t a) = φ b - t * φ a
  neg : ∀ a, Dim d n a → φ (negL a) = -φ a
theorem Lin.el {d n : Nat} {φ : Ln → Int} (h : Lin d n φ) : El fun ls => ∀ l ∈ ls, Dim d n l ∧ φ l = 0 where
  perm := fun p h l hl => h l (p.mem_iff.mpr hl)
  op := fun a b t tl hh l hl => by
    have ha := hh a List.mem_cons_self
    have hb := hh b (List.mem_cons_of_mem _ List.mem_cons_self)
    rcases List.mem_cons.mp hl with e | hl
    · subst e; exact ha
    · rcases List.mem_cons.mp hl with e | hl
      · subst e
        refine ⟨dim_sub ha.1 hb.1, ?_⟩
        rw [h.sub a b t ha.1 hb.1, ha.2, hb.2]
        simp
      · exact hh l (List.mem_cons_of_mem _ (List.mem_cons_of_mem _ hl))
  neg := fun a tl hh l hl => by
    rcases List.mem_cons.mp hl with e | hl
    · subst e
      have ha := hh a List.mem_cons_self
      refine ⟨dim_neg ha.1, ?_⟩
      rw [h.neg a ha.1, ha.2]
      rfl
    · exact hh l (List.mem_cons_of_mem _ hl)
def mk (l : Ln) : Nat → Int := fun k => l.2.getD k 0
def rw' (l : Ln) : Nat → Int := fun k => l.1.getD k 0
theorem mk_sub {d n : Nat} {a b : Ln} {t : Int} (ha : Dim d n a) (hb : Dim d n b) : mk (subL b t a) = fun k => mk b k - t * mk a k := funext fun k => val_sub ha hb (false, k)
theorem rw_sub {d n : Nat} {a b : Ln} {t : Int} (ha : Dim d n a) (hb : Dim d n b) : rw' (subL b t a) = fun k => rw' b k - t * rw' a k := funext fun k => val_sub ha hb (true, k)
theorem mk_neg (a : Ln) : mk (negL a) = fun k => -mk a k := funext fun k => val_neg a (false, k)
theorem rw_neg (a : Ln) : rw' (negL a) = fun k => -rw' a k := funext fun k => val_neg a (true, k)
/-- the row is what its maker makes of the first rows R -/
theorem lin_made (d n : Nat) (R : Nat → Nat → Int) (k : Nat) : Lin d n fun l => rw' l k - dotN n (mk l) (fun t => R t k) where
  sub := fun a b t ha hb => by
    show rw' (subL b t a) k - dotN n (mk (subL b t a)) _ = _
    rw [mk_sub ha hb, rw_sub ha hb, dot_sub]
    grind
  neg := fun a ha => by
    show rw' (negL a) k - dotN n (mk (negL a)) _ = _
    rw [mk_neg, rw_neg, dot_neg]
    grind
/-! ### spans -/
inductive Spn (f : Ln → Nat → Int) (S : List Ln) : (Nat → Int) → Prop
  | zero : Spn f S fun _ => 0
  | add {w : Nat → Int} {l : Ln} (c : Int) : l ∈ S → Spn f S w → Spn f S fun k => w k + c * f l k
theorem Spn.plus {f : Ln → Nat → Int} {S : List Ln} {v w : Nat → Int} (hv : Spn f S v) (hw : Spn f S w) (t : Int) : Spn f S fun k => v k + t * w k := by
  induction hw with
  | zero => simpa using hv
  | @add w l c hl _ ih =>
    have := Spn.add (t * c) hl ih
    have e : (fun k => v k + t * w k + t * c * f l k) = fun k => v k + t * (w k + c * f l k) := funext fun k => by grind
    rwa [e] at this
theorem Spn.self {f : Ln → Nat → Int} {S : List Ln} {l : Ln} (h : l ∈ S) : Spn f S (f l) := by
  have := Spn.add (f := f) 1 h .zero
  have e : (fun k => (0 : Int) + 1 * f l k) = f l := funext fun k => by simp
  rwa [e] at this
theorem Spn.over {f g : Ln → Nat → Int} {S T : List Ln} (h : ∀ l ∈ S, Spn g T (f l)) {w : Nat → Int} (hw : Spn f S w) : Spn g T w := by
  induction hw with
  | zero => exact .zero
  | @add w l c hl _ ih => exact ih.plus (h l hl) c
/-- all unit vectors are made -/
def Gen (n : Nat) (f : Ln → Nat → Int) (S : List Ln) : Prop := ∀ i, i < n → ∃ w, Spn f S w ∧ ∀ k, k < n → w k = un i k
theorem Gen.over {n : Nat} {f g : Ln → Nat → Int} {S T : List Ln} (h : Gen n f S) (hs : ∀ l ∈ S, Spn g T (f l)) : Gen n g T := fun i hi =>
  let ⟨w, h1, h2⟩ := h i hi
  ⟨w, h1.over hs, h2⟩
/-- a way of reading that goes along with the steps -/
structure Lf (d n : Nat) (f : Ln → Nat → Int) : Prop where
  sub : ∀ a b t, Dim d n a → Dim d n b → f (subL b t a) = fun k => f b k - t * f a k
  neg : ∀ a, f (negL a) = fun k => -f a k
theorem lf_mk (d n : Nat) : Lf d n mk := ⟨fun _ _ _ ha hb => mk_sub ha hb, mk_neg⟩
theorem lf_rw (d n : Nat) : Lf d n rw' := ⟨fun _ _ _ ha hb => rw_sub ha hb, rw_neg⟩
theorem el_gen {d n m : Nat} {f : Ln → Nat → Int} (F : Lf d n f) : El fun ls => (∀ l ∈ ls, Dim d n l) ∧ Gen m f ls where
  perm := fun p h => ⟨fun l hl => h.1 l (p.mem_iff.mpr hl), h.2.over fun l hl => .self (p.mem_iff.mp hl)⟩
  op := fun a b t tl h => by
    have ha := h.1 a List.mem_cons_self
    have hb := h.1 b (List.mem_cons_of_mem _ List.mem_cons_self)
    refine ⟨fun l hl => ?_, h.2.over fun l hl => ?_⟩
    · rcases List.mem_cons.mp hl with e | hl
      · subst e; exact ha
      · rcases List.mem_cons.mp hl with e | hl
        · subst e; exact dim_sub ha hb
        · exact h.1 l (List.mem_cons_of_mem _ (List.mem_cons_of_mem _ hl))
    · rcases List.mem_cons.mp hl with e | hl
      · subst e; exact .self List.mem_cons_self
      · rcases List.mem_cons.mp hl with e | hl
        · subst e
          have s1 : Spn f (a :: subL l t a :: tl) (f (subL l t a)) := .self (List.mem_cons_of_mem _ List.mem_cons_self)
          have s2 : Spn f (a :: subL l t a :: tl) (f a) := .self List.mem_cons_self
          have := s1.plus s2 t
          rw [F.sub a l t ha hb] at this
          have e : (fun k => f l k - t * f a k + t * f a k) = f l := funext fun k => by omega
          rwa [e] at this
        · exact .self (List.mem_cons_of_mem _ (List.mem_cons_of_mem _ hl))
  neg := fun a tl h => by
    refine ⟨fun l hl => ?_, h.2.over fun l hl => ?_⟩
    · rcases List.mem_cons.mp hl with e | hl
      · subst e; exact dim_neg (h.1 a List.mem_cons_self)
      · exact h.1 l (List.mem_cons_of_mem _ hl)
    · rcases List.mem_cons.mp hl with e | hl
      · subst e
        have s1 : Spn f (negL l :: tl) (f (negL l)) := .self List.mem_cons_self
        have := Spn.zero.plus s1 (-1)
        rw [F.neg] at this
        have e : (fun k => (0 : Int) + -1 * -f l k) = f l := funext fun k => by omega
        rwa [e] at this
      · exact .self (List.mem_cons_of_mem _ hl)
/-! ### duals -/
def Dual (d n : Nat) (ps : List (Ln × (Nat → Int))) : Prop := (∀ p ∈ ps, Dim d n p.1 ∧ dotN n (mk p.1) p.2 = 1) ∧ ps.Pairwise fun p q => dotN n (mk p.1) q.2 = 0 ∧ dotN n (mk q.1) p.2 = 0
def HasD (d n : Nat) (ls : List Ln) : Prop := ∃ ps, ls = ps.map (·.1) ∧ Dual d n ps
theorem perm_map' {α β : Type} {f : α → β} : ∀ {ws l : List β}, ws.Perm l → ∀ L : List α, l = L.map f → ∃ L1 : List α, ws = L1.map f ∧ L1.Perm L := by
  intro ws l h
  induction h with
  | nil =>
    intro L e
    have : L = [] := by cases L with | nil => rfl | cons a b => cases e
    subst this
    exact ⟨[], rfl, .nil⟩
  | cons x h ih =>
    intro L e
    cases L with
    | nil => cases e
    | cons a r =>
      cases e
      obtain ⟨L1, rfl, p⟩ := ih r rfl
      exact ⟨a :: L1, rfl, p.cons a⟩
  | swap x y l =>
    intro L e
    cases L with
    | nil => cases e
    | cons a r =>
      cases r with
      | nil => cases e
      | cons b r => cases e; exact ⟨b :: a :: r, rfl, .swap a b r⟩
  | trans h1 h2 i1 i2 =>
    intro L e
    obtain ⟨L1, rfl, p⟩ := i2 L e
    obtain ⟨L2, rfl, p2⟩ := i1 L1 rfl
    exact ⟨L2, rfl, p2.trans p⟩
theorem el_dual (d n : Nat) : El (HasD d n) where
  perm := fun p ⟨ps, e, h1, h2⟩ => by
    obtain ⟨qs, e2, pm⟩ := perm_map' p.symm ps e
    exact ⟨qs, e2, fun q hq => h1 q (pm.mem_iff.mp hq), (pm.pairwise_iff fun {a b} h => ⟨h.2, h.1⟩).mpr h2⟩
  op := fun a b t tl ⟨ps, e, h1, h2⟩ => by
    cases ps with
    | nil => cases e
    | cons p ps =>
      cases ps with
      | nil => cases e
      | cons q ps =>
        cases e
        obtain ⟨a, da⟩ := p
        obtain ⟨b, db⟩ := q
        obtain ⟨w1, w2⟩ := List.pairwise_cons.mp h2
        obtain ⟨w3, w4⟩ := List.pairwise_cons.mp w2
        obtain ⟨ha, ha1⟩ := h1 _ List.mem_cons_self
        obtain ⟨hb, hb1⟩ := h1 _ (List.mem_cons_of_mem _ List.mem_cons_self)
        obtain ⟨ab, ba⟩ := w1 _ List.mem_cons_self
        dsimp only at ha ha1 hb hb1 ab ba
        refine ⟨(a, fun k => da k + t * db k) :: (subL b t a, db) :: ps, rfl, fun p hp => ?_, List.pairwise_cons.mpr ⟨fun p hp => ?_, List.pairwise_cons.mpr ⟨fun p hp => ?_, w4⟩⟩⟩
        · rcases List.mem_cons.mp hp with e | hp
          · subst e
            refine ⟨ha, ?_⟩
            dsimp only
            rw [dot_add, ha1, ab]; simp
          · rcases List.mem_cons.mp hp with e | hp
            · subst e
              refine ⟨dim_sub ha hb, ?_⟩
              dsimp only
              rw [mk_sub ha hb, dot_sub, hb1, ab]; simp
            · exact h1 p (List.mem_cons_of_mem _ (List.mem_cons_of_mem _ hp))
        · rcases List.mem_cons.mp hp with e | hp
          · subst e
            dsimp only
            refine ⟨ab, ?_⟩
            rw [mk_sub ha hb, dot_sub, dot_add, dot_add, ba, hb1, ha1, ab]; simp
          · obtain ⟨x1, x2⟩ := w1 p (List.mem_cons_of_mem _ hp)
            obtain ⟨x3, x4⟩ := w3 p hp
            dsimp only at x1 x2 x3 x4 ⊢
            refine ⟨x1, ?_⟩
            rw [dot_add, x2, x4]; simp
        · obtain ⟨x1, x2⟩ := w1 p (List.mem_cons_of_mem _ hp)
          obtain ⟨x3, x4⟩ := w3 p hp
          dsimp only at x1 x2 x3 x4 ⊢
          refine ⟨?_, x4⟩
          rw [mk_sub ha hb, dot_sub, x3, x1]; simp
  neg := fun a tl ⟨ps, e, h1, h2⟩ => by
    cases ps with
    | nil => cases e
    | cons p ps =>
      cases e
      obtain ⟨a, da⟩ := p
      obtain ⟨w1, w2⟩ := List.pairwise_cons.mp h2
      obtain ⟨ha, ha1⟩ := h1 _ List.mem_cons_self
      dsimp only at ha ha1
      refine ⟨(negL a, fun k => -da k) :: ps, rfl, fun p hp => ?_, List.pairwise_cons.mpr ⟨fun p hp => ?_, w2⟩⟩
      · rcases List.mem_cons.mp hp with e | hp
        · subst e
          refine ⟨dim_neg ha, ?_⟩
          dsimp only
          rw [mk_neg, dot_neg, dot_negR, ha1]; rfl
        · exact h1 p (List.mem_cons_of_mem _ hp)
      · obtain ⟨x1, x2⟩ := w1 p hp
        dsimp only at x1 x2 ⊢
        rw [mk_neg, dot_neg, dot_negR, x1, x2]
        exact ⟨rfl, rfl⟩
end Mth


set_option maxRecDepth 100000
set_option maxHeartbeats 1000000 -- ht
/-! What the functions of data give: rules to reckon them. -/
namespace Ht
open PySem PySem.Spec PyProof.Rows L2 -- ht
/-! ### data of plain lists -/
def eI (l : List Int) : D := .lst (l.map .int)
def eT (t : List (List Int)) : D := .lst (t.map eI)
def eP (l : Mth.Ln) : D := .tup [eI l.1, eI l.2]
def eLs (ls : List Mth.Ln) : D := .lst (ls.map eP)
/-! ### comprehensions -/
theorem lcGo_eq {α : Type} {st : D → Mem → Option (List D × Mem)} {C : Mem} (enc : α → D) (p : α → Bool) (g : α → D) : ∀ xs : List α, (∀ x ∈ xs, st (enc x) C = some (if p x then [g x] else [], C)) → lcGo st (xs.map enc) C = some ((xs.filter p).map g, C)
  | [], _ => rfl
  | x :: xs, h => by
    have h1 := h x List.mem_cons_self
    have h2 := lcGo_eq enc p g xs fun y hy => h y (List.mem_cons_of_mem _ hy)
    show (match st (enc x) C with
      | some (o, C1) => match lcGo st (xs.map enc) C1 with
        | some (r, C2) => some (o ++ r, C2)
        | none => none
      | none => none) = _
    rw [h1]
    dsimp only
    rw [h2]
    rw [List.filter_cons]
    cases p x <;> rfl
theorem lc_eq {α : Type} {vs : List Nat} {fi : LF} {k : GF} {tf : BF} {ef : EF} {ρ : Rho} {C C0 : Mem} (xs : List α) (enc : α → D) (p : α → Bool) (g : α → D) (h1 : fi ρ C0 = some (xs.map enc, C)) (ho : noOw ρ vs = true) (hl : xs.length ≤ 100000)
    (hs : ∀ x ∈ xs, ∃ ρ', k (enc x) (wipeR ρ vs) = some ρ' ∧ tf ρ' C = some (p x, C) ∧ (p x = true → ef ρ' C = some (g x, C))) : lLc vs fi k tf ef ρ C0 = some ((xs.filter p).map g, C) := by
  unfold lLc
  rw [h1]
  dsimp only
  rw [if_pos ⟨ho, by rw [List.length_map]; exact hl⟩]
  refine lcGo_eq enc p g xs fun x hx => ?_
  obtain ⟨ρ', e1, e2, e3⟩ := hs x hx
  unfold lcStep
  rw [e1]
  dsimp only
  rw [e2]
  cases q : p x with
  | true => dsimp only; rw [e3 q]; rfl
  | false => rfl
theorem lc_map {α : Type} {vs : List Nat} {fi : LF} {k : GF} {ef : EF} {ρ : Rho} {C C0 : Mem} (xs : List α) (enc : α → D) (g : α → D) (h1 : fi ρ C0 = some (xs.map enc, C)) (ho : noOw ρ vs = true) (hl : xs.length ≤ 100000)
    (hs : ∀ x ∈ xs, ∃ ρ', k (enc x) (wipeR ρ vs) = some ρ' ∧ ef ρ' C = some (g x, C)) : lLc vs fi k bTrue ef ρ C0 = some (xs.map g, C) := by
  have := lc_eq (tf := bTrue) (ef := ef) xs enc (fun _ => true) g h1 ho hl fun x hx => by
    obtain ⟨ρ', e1, e2⟩ := hs x hx
    exact ⟨ρ', e1, rfl, fun _ => e2⟩
  rw [this, List.filter_eq_self.mpr fun _ _ => rfl]
/-! ### for -/
theorem forGo_nil {k : GF} {b : SF} {ρ : Rho} {C : Mem} : forGo k b [] ρ C = some (.nx ρ, C) := rfl
theorem forGo_cons {k : GF} {b : SF} {d : D} {ds : List D} {ρ ρ1 ρ2 : Rho} {C C1 : Mem} {r : Option (Out × Mem)} (h1 : k d ρ = some ρ1) (h2 : b ρ1 C = some (.nx ρ2, C1)) (h3 : forGo k b ds ρ2 C1 = r) : forGo k b (d :: ds) ρ C = r := by
  unfold forGo
  rw [h1]
  dsimp only
  rw [h2]
  exact h3
/-- an invariant of the walk: P by what is done -/
theorem forGo_inv {α : Type} {k : GF} {b : SF} (enc : α → D) (P : List α → Rho → Mem → Prop) : ∀ (xs done : List α) (ρ : Rho) (C : Mem), P done ρ C →
    (∀ done x ρ C, x ∈ xs → P done ρ C → ∃ ρ1 ρ2 C2, k (enc x) ρ = some ρ1 ∧ b ρ1 C = some (.nx ρ2, C2) ∧ P (done ++ [x]) ρ2 C2) →
    ∃ ρ' C', forGo k b (xs.map enc) ρ C = some (.nx ρ', C') ∧ P (done ++ xs) ρ' C'
  | [], done, ρ, C, h, _ => ⟨ρ, C, rfl, by rw [List.append_nil]; exact h⟩
  | x :: xs, done, ρ, C, h, hs => by
    obtain ⟨ρ1, ρ2, C2, e1, e2, h2⟩ := hs done x ρ C List.mem_cons_self h
    obtain ⟨ρ', C', e3, h3⟩ := forGo_inv enc P xs (done ++ [x]) ρ2 C2 h2 fun d y ρ C hy hp => hs d y ρ C (List.mem_cons_of_mem _ hy) hp
    exact ⟨ρ', C', forGo_cons e1 e2 e3, by rw [List.append_assoc] at h3; exact h3⟩
theorem forGo_invN {α : Type} {k : GF} {b : SF} (enc : α → D) (P : List α → Rho → Mem → Prop) (N : Nat) : ∀ (xs done : List α) (ρ : Rho) (C : Mem), done.length + xs.length = N → P done ρ C →
    (∀ done x ρ C, x ∈ xs → done.length < N → P done ρ C → ∃ ρ1 ρ2 C2, k (enc x) ρ = some ρ1 ∧ b ρ1 C = some (.nx ρ2, C2) ∧ P (done ++ [x]) ρ2 C2) →
    ∃ ρ' C', forGo k b (xs.map enc) ρ C = some (.nx ρ', C') ∧ P (done ++ xs) ρ' C'
  | [], done, ρ, C, _, h, _ => ⟨ρ, C, rfl, by rw [List.append_nil]; exact h⟩
  | x :: xs, done, ρ, C, hn, h, hs => by
    have hn' : done.length + (xs.length + 1) = N := hn
    obtain ⟨ρ1, ρ2, C2, e1, e2, h2⟩ := hs done x ρ C List.mem_cons_self (by omega) h
    obtain ⟨ρ', C', e3, h3⟩ := forGo_invN enc P N xs (done ++ [x]) ρ2 C2 (by rw [List.length_append]; simp; omega) h2 fun d y ρ C hy hl hp => hs d y ρ C (List.mem_cons_of_mem _ hy) hl hp
    exact ⟨ρ', C', forGo_cons e1 e2 e3, by rw [List.append_assoc] at h3; exact h3⟩
/-! ### operators -/
theorem kEq_int (i j : Int) : kEq (.int i) (.int j) = some (.bl (decide (i = j))) := by
  unfold kEq
  rw [if_pos ⟨rfl, rfl⟩]
  have : eqP (.int i) (.int j) = decide (i = j) := by
    simp [eqP, toP, PyData.eqv]
    rfl
  rw [this]
theorem kNe_int (i j : Int) : kNe (.int i) (.int j) = some (.bl (decide (i ≠ j))) := by
  have h := kEq_int i j
  unfold kEq at h
  unfold kNe
  rw [if_pos ⟨rfl, rfl⟩] at h ⊢
  have h : eqP (.int i) (.int j) = decide (i = j) := by injection h with h; injection h
  rw [h]
  simp
def Fit (x : Int) : Prop := ∃ e, e ≤ 60000000 ∧ x.natAbs < 2 ^ e
theorem fit_mul {i j : Int} (hi : Fit i) (hj : Fit j) : mulFit i j = true := by
  obtain ⟨e, he, h1⟩ := hi
  obtain ⟨f, hf, h2⟩ := hj
  have lg : ∀ (n e : Nat), n < 2 ^ e → n.log2 ≤ e := fun n e h => by
    by_cases h0 : n = 0
    · subst h0; simp
    · exact Nat.le_of_lt ((Nat.log2_lt h0).mpr h)
  have l1 := lg _ _ h1
  have l2 := lg _ _ h2
  exact decide_eq_true (.inr (.inr (by omega)))
theorem kMul_fit {i j : Int} (hi : Fit i) (hj : Fit j) : kMul (.int i) (.int j) = some (.int (i * j)) := by
  show (if mulFit i j = true then some (D.int (i * j)) else none) = _
  rw [if_pos (fit_mul hi hj)]
theorem kDiv_ne {i j : Int} (h : j ≠ 0) : kDiv (.int i) (.int j) = some (.int (i.fdiv j)) := by
  show (if ne0 i j = true then some (D.int (i.fdiv j)) else none) = _
  rw [if_pos (show ne0 i j = true from decide_eq_true h)]
theorem kMod_ne {i j : Int} (h : j ≠ 0) : kMod (.int i) (.int j) = some (.int (i.fmod j)) := by
  show (if ne0 i j = true then some (D.int (i.fmod j)) else none) = _
  rw [if_pos (show ne0 i j = true from decide_eq_true h)]
/-! ### items -/
theorem atI_nat {α : Type} (l : List α) (i : Nat) : atI l (i : Int) = l[i]? := by
  unfold atI ixN
  by_cases h : i < l.length
  · have h1 : ¬ ((i : Int) < 0) := by omega
    simp [h1, h]
  · have h1 : ¬ ((i : Int) < 0) := by omega
    simp [h1, h]
theorem ix_lst {ds : List D} {i : Nat} {d : D} (h : ds[i]? = some d) : ixD (.lst ds) (.int (i : Int)) = some d := by
  show atI ds (i : Int) = _
  rw [atI_nat, h]
theorem ix_tup {ds : List D} {i : Nat} {d : D} (h : ds[i]? = some d) : ixD (.tup ds) (.int (i : Int)) = some d := by
  show atI ds (i : Int) = _
  rw [atI_nat, h]
theorem getD_some {l : List Int} {i : Nat} (h : i < l.length) : l[i]? = some (l.getD i 0) := by
  rw [List.getD_eq_getElem?_getD, List.getElem?_eq_getElem h]
  rfl
theorem ix_eI {l : List Int} {i : Nat} (h : i < l.length) : ixD (eI l) (.int (i : Int)) = some (.int (l.getD i 0)) := ix_lst (by rw [List.getElem?_map, getD_some h]; rfl)
theorem rangeD_eq (n : Nat) : rangeD 0 n = (List.range n).map fun (i : Nat) => D.int (i : Int) := by
  unfold rangeD
  refine List.map_congr_left fun i _ => ?_ -- ht
  rw [Int.zero_add]
theorem zipD_eq {α β : Type} (f : α → D) (g : β → D) : ∀ (xs : List α) (ys : List β), zipD (xs.map f) (ys.map g) = (xs.zip ys).map fun p => .tup [f p.1, g p.2]
  | [], _ => by simp [zipD]
  | _ :: _, [] => by simp [zipD]
  | x :: xs, y :: ys => by simp [zipD, zipD_eq f g xs ys]
theorem enumD_eq {α : Type} (f : α → D) : ∀ (xs : List α) (k : Nat), enumD k (xs.map f) = (xs.zipIdx k).map fun p => .tup [.int (p.2 : Int), f p.1]
  | [], _ => rfl
  | x :: xs, k => by
    simp [enumD, List.zipIdx_cons]
    exact enumD_eq f xs (k + 1)
/-! ### statements -/
section
variable {ρ ρ1 : Rho} {C C1 C2 : Mem} {d x y : D} {ds : List D} {i : Nat} {f h : EF} {g : LF} {s t : SF}
theorem ev_seq (h1 : s ρ C = some (.nx ρ1, C1)) : sSeq s t ρ C = t ρ1 C1 := by unfold sSeq; rw [h1]
theorem ev_seqR (h1 : s ρ C = some (.rt d, C1)) : sSeq s t ρ C = some (.rt d, C1) := by unfold sSeq; rw [h1]
theorem ev_set (h1 : f ρ C = some (d, C1)) (hi : i < ρ.length := by exact Nat.le_of_ble_eq_true rfl) : sSet i f ρ C = some (.nx (ρ.set i (.im d)), C1) := by unfold sSet; rw [h1]; dsimp only; rw [if_pos hi]
theorem ev_own (h1 : g ρ C = some (ds, C1)) (hi : i < ρ.length := by exact Nat.le_of_ble_eq_true rfl) : sOwn i g ρ C = some (.nx (ρ.set i (.ow ds)), C1) := by unfold sOwn; rw [h1]; dsimp only; rw [if_pos hi]
theorem ev_fz (h1 : ρ[i]? = some (.ow ds)) : sFz i s ρ C = s (ρ.set i (.im (.lst ds))) C := by unfold sFz; rw [h1]
theorem ev_app (h1 : f ρ C = some (d, C1)) (h2 : ρ[i]? = some (.ow ds)) (hl : ds.length ≤ 100000) : sApp i f ρ C = some (.nx (ρ.set i (.ow (ds ++ [d]))), C1) := by unfold sApp; rw [h1]; dsimp only; rw [h2]; dsimp only; rw [if_pos hl]
theorem ev_ret (h1 : f ρ C = some (d, C1)) : sRet f ρ C = some (.rt d, C1) := by unfold sRet; rw [h1]
theorem ev_asg {k : GF} (h1 : f ρ C = some (d, C1)) (h2 : k d ρ = some ρ1) : sAsg k f ρ C = some (.nx ρ1, C1) := by unfold sAsg; rw [h1]; dsimp only; rw [h2]
theorem ev_ifT {c : BF} (h1 : c ρ C = some (true, C1)) : sIf c s t ρ C = s ρ C1 := by unfold sIf; rw [h1]
theorem ev_ifF {c : BF} (h1 : c ρ C = some (false, C1)) : sIf c s t ρ C = t ρ C1 := by unfold sIf; rw [h1]
theorem ev_for {k : GF} (h1 : g ρ C = some (ds, C1)) : sFor g k s ρ C = forGo k s ds ρ C1 := by unfold sFor; rw [h1]
/-! ### expressions -/
theorem ev_e1 {k : D → Option D} (h1 : f ρ C = some (x, C1)) (h2 : k x = some d) : e1 k f ρ C = some (d, C1) := by unfold e1; rw [h1]; dsimp only; rw [h2]
theorem ev_e2 {k : D → D → Option D} (h1 : f ρ C = some (x, C1)) (h2 : h ρ C1 = some (y, C2)) (h3 : k x y = some d) : e2 k f h ρ C = some (d, C2) := by unfold e2; rw [h1]; dsimp only; rw [h2]; dsimp only; rw [h3]
theorem ev_asD (h1 : g ρ C = some (ds, C1)) : asD g ρ C = some (.lst ds, C1) := by unfold asD; rw [h1]
theorem ev_asL (h1 : f ρ C = some (.lst ds, C1)) : asL f ρ C = some (ds, C1) := by unfold asL; rw [h1]
theorem ev_cons (h1 : f ρ C = some (d, C1)) (h2 : g ρ C1 = some (ds, C2)) : aCons f g ρ C = some (d :: ds, C2) := by unfold aCons; rw [h1]; dsimp only; rw [h2]
theorem ev_tup (h1 : g ρ C = some (ds, C1)) (hl : ds.length ≤ 1000 := by exact Nat.le_of_ble_eq_true rfl) : eTup g ρ C = some (.tup ds, C1) := by unfold eTup; rw [h1]; dsimp only; rw [if_pos hl]
theorem ev_lst (h1 : g ρ C = some (ds, C1)) (hl : ds.length ≤ 1000 := by exact Nat.le_of_ble_eq_true rfl) : lLst g ρ C = some (ds, C1) := by unfold lLst; rw [h1]; dsimp only; rw [if_pos hl]
theorem ev_call {n : Nat} {F : FF} (h1 : g ρ C = some (ds, C1)) (h2 : F ds C1 = some (d, C2)) (hn : ds.length = n := by rfl) : eCallN n F g ρ C = some (d, C2) := by rw [eCallN_eq h1 hn]; exact h2
theorem ev_bOf {b : Bool} (h1 : f ρ C = some (.bl b, C1)) : bOf f ρ C = some (b, C1) := by unfold bOf; rw [h1]
theorem ev_if1 {c : BF} (h1 : c ρ C = some (true, C1)) (h2 : f ρ C1 = some (d, C2)) : eIf c f h ρ C = some (d, C2) := by unfold eIf; rw [h1]; exact h2
theorem ev_if0 {c : BF} (h1 : c ρ C = some (false, C1)) (h2 : h ρ C1 = some (d, C2)) : eIf c f h ρ C = some (d, C2) := by unfold eIf; rw [h1]; exact h2
theorem ev_run {n : Nat} {b : SF} (h1 : b (rho0 n ds) C = some (.rt d, C1)) : runF n b ds C = some (d, C1) := by unfold runF; rw [h1]
theorem ev_rng1 {n : Nat} (h1 : f ρ C = some (.int (n : Int), C1)) (hn : n < 2 ^ 62) : lRng1 f ρ C = some ((List.range n).map fun (i : Nat) => D.int (i : Int), C1) := by
  unfold lRng1
  rw [h1]
  dsimp only
  rw [if_pos (by omega), Int.toNat_natCast, rangeD_eq]
end
theorem ev_bd {ρ : Rho} {C C1 : Mem} {ds : List D} {g : LF} (h1 : g ρ C = some (ds, C1)) (hl : ds.length ≤ 100000) : lBd g ρ C = some (ds, C1) := by unfold lBd; rw [h1]; dsimp only; rw [if_pos hl]
theorem ev_zip {ρ : Rho} {C C1 C2 : Mem} {xs ys : List D} {f h : EF} (h1 : f ρ C = some (.lst xs, C1)) (h2 : h ρ C1 = some (.lst ys, C2)) : lZip f h ρ C = some (zipD xs ys, C2) := by unfold lZip; rw [h1]; dsimp only; rw [h2]
/-! ### equality of data -/
theorem eqP_eI : ∀ a b : List Int, eqP (eI a) (eI b) = decide (a = b) := by
  have key : ∀ a b : List Int, PyData.eqvAll (toPs (a.map .int)) (toPs (b.map .int)) = decide (a = b) := fun a => by
    induction a with
    | nil => intro b; cases b <;> simp [toPs, PyData.eqvAll]
    | cons x a ih =>
      intro b
      cases b with
      | nil => simp [toPs, PyData.eqvAll]
      | cons y b =>
        simp only [List.map_cons, toPs, PyData.eqvAll, toP, PyData.eqv, ih]
        by_cases h : x = y <;> simp [h]
  intro a b
  simp only [eqP, eI, toP, PyData.eqv]
  exact key a b
theorem kNe_nil (ds : List D) (h : okDs 59 ds = true) : kNe (.lst ds) (.lst []) = some (.bl (decide (ds ≠ []))) := by
  unfold kNe
  rw [if_pos ⟨by simpa only [okD] using h, rfl⟩]
  cases ds with
  | nil => simp [eqP, toP, toPs, PyData.eqv, PyData.eqvAll]
  | cons d ds => simp [eqP, toP, toPs, PyData.eqv, PyData.eqvAll]
theorem ok_ints (n : Nat) : ∀ l : List Int, okDs n (l.map .int) = true
  | [] => by simp [okDs]
  | x :: l => by
    have := ok_ints n l
    cases n <;> simp [okDs, okD, this]
theorem ok_eI (n : Nat) (l : List Int) : okD (n + 1) (eI l) = true := by
  have := ok_ints n l
  simpa [eI, okD] using this
theorem ok_eP (n : Nat) (l : Mth.Ln) : okD (n + 2) (eP l) = true := by
  have h1 := ok_eI n l.1
  have h2 := ok_eI n l.2
  simp [eP, okD, okDs, h1, h2]
theorem okDs_map {α : Type} {n : Nat} {f : α → D} (h : ∀ x, okD n (f x) = true) : ∀ l : List α, okDs n (l.map f) = true
  | [] => by simp [okDs]
  | x :: l => by
    have := okDs_map h l
    simp [okDs, h x, this]
section
variable {ρ : Rho} {C C1 C2 : Mem} {ds es : List D} {p : Nat} {f h : EF} {g g2 : LF}
theorem ev_take (h1 : g ρ C = some (ds, C1)) (h2 : h ρ C1 = some (.int (p : Int), C2)) : lCut g oNone (oSome h) ρ C = some (ds.take p, C2) := by
  unfold lCut oNone oSome
  rw [h1]
  dsimp only
  rw [h2]
  dsimp only
  unfold cutD
  rw [HT.sIx_nat]
  show some ((ds.drop 0).take (min p ds.length - 0), C2) = _
  rw [List.drop_zero, Nat.sub_zero]
  by_cases hp : p ≤ ds.length
  · rw [Nat.min_eq_left hp]
  · rw [Nat.min_eq_right (by omega), List.take_of_length_le (Nat.le_refl _), List.take_of_length_le (by omega)] -- ht
theorem ev_drop (h1 : g ρ C = some (ds, C1)) (h2 : h ρ C1 = some (.int (p : Int), C2)) : lCut g (oSome h) oNone ρ C = some (ds.drop p, C2) := by
  unfold lCut oNone oSome
  rw [h1]
  dsimp only
  rw [h2]
  dsimp only
  unfold cutD
  rw [HT.sIx_nat]
  show some ((ds.drop (min p ds.length)).take (ds.length - min p ds.length), C2) = _
  by_cases hp : p ≤ ds.length
  · rw [Nat.min_eq_left hp, List.take_of_length_le (by rw [List.length_drop]; omega)]
  · rw [Nat.min_eq_right (by omega), List.drop_eq_nil_of_le (Nat.le_refl _), List.drop_eq_nil_of_le (by omega), List.take_nil]
theorem ev_cat (h1 : g ρ C = some (ds, C1)) (h2 : g2 ρ C1 = some (es, C2)) (hl : ds.length + es.length ≤ 100000) : lCat g g2 ρ C = some (ds ++ es, C2) := by
  unfold lCat
  rw [h1]
  dsimp only
  rw [h2]
  dsimp only
  rw [if_pos hl]
end
theorem mapM_ints : ∀ l : List Int, (l.map D.int).mapM dInt = some l
  | [] => rfl
  | x :: l => by
    rw [List.map_cons, List.mapM_cons, mapM_ints l]
    rfl
theorem mapM_tups : ∀ l : List (List Int), (l.map tupI).mapM intsOf? = some l
  | [] => rfl
  | x :: l => by
    rw [List.map_cons, List.mapM_cons, mapM_tups l]
    have e : intsOf? (tupI x) = some x := mapM_ints x
    rw [e]
    rfl
/-- the least, by its first number -/
theorem minI_spec : ∀ (ks : List (List Int)) (k : List Int), minI k ks ∈ k :: ks ∧ ∀ y ∈ k :: ks, ltI y (minI k ks) = false := by
  have irr : ∀ l : List Int, ltI l l = false := fun l => by rw [ltI_eq]; simp [List.lt_irrefl]
  have tr : ∀ a b c : List Int, ltI a b = false → ltI b c = false → ltI a c = false := fun a b c h1 h2 => by
    rw [ltI_eq] at *
    have h1 : ¬ a < b := of_decide_eq_false h1
    have h2 : ¬ b < c := of_decide_eq_false h2
    exact decide_eq_false (List.not_lt.mpr (List.le_trans (List.not_lt.mp h2) (List.not_lt.mp h1)))
  have asy : ∀ a b : List Int, ltI a b = true → ltI b a = false := fun a b h => by
    rw [ltI_eq] at *
    exact decide_eq_false (List.not_lt.mpr (List.le_of_lt (of_decide_eq_true h)))
  intro ks
  induction ks with
  | nil => exact fun k => ⟨List.mem_cons_self, fun y hy => by
      have : y = k := by simpa using hy
      subst this
      exact irr y⟩
  | cons y ks ih =>
    intro k
    have e : minI k (y :: ks) = minI (if ltI y k then y else k) ks := rfl
    rw [e]
    obtain ⟨h1, h2⟩ := ih (if ltI y k then y else k)
    refine ⟨?_, fun z hz => ?_⟩
    · rcases List.mem_cons.mp h1 with h | h
      · rw [h]
        by_cases q : ltI y k = true
        · rw [if_pos q]; simp
        · rw [if_neg q]; simp
      · simp [h]
    · by_cases q : ltI y k = true
      · rw [if_pos q] at h2 ⊢
        rcases List.mem_cons.mp hz with e | hz -- ht
        · subst e
          exact tr _ y _ (asy _ _ q) (h2 y List.mem_cons_self)
        · exact h2 z hz
      · rw [if_neg q] at h2 ⊢
        have q' : ltI y k = false := by simpa using q
        rcases List.mem_cons.mp hz with e | hz -- ht
        · subst e; exact h2 z List.mem_cons_self
        · rcases List.mem_cons.mp hz with e | hz
          · subst e; exact tr _ k _ q' (h2 k List.mem_cons_self)
          · exact h2 z (List.mem_cons_of_mem _ hz)
theorem kEq_nil (ds : List D) (h : okDs 59 ds = true) : kEq (.lst ds) (.lst []) = some (.bl (decide (ds = []))) := by
  unfold kEq
  rw [if_pos ⟨by simpa only [okD] using h, rfl⟩]
  cases ds with
  | nil => simp [eqP, toP, toPs, PyData.eqv, PyData.eqvAll]
  | cons d ds => simp [eqP, toP, toPs, PyData.eqv, PyData.eqvAll]
theorem ok_tupI (n : Nat) (l : List Int) : okD (n + 1) (tupI l) = true := by
  have := ok_ints n l
  simpa [tupI, okD] using this
theorem kNe_same {x : D} (h : okD 60 x = true) : kNe x x = some (.bl false) := by
  unfold kNe
  rw [if_pos ⟨h, h⟩]
  have : eqP x x = true := eqv_refl 60 x h
  rw [this]
  rfl
end Ht


set_option maxRecDepth 100000
set_option maxHeartbeats 4000000 -- ht
namespace K62
open PySem PySem.Spec PyProof.Rows L2 Ht
abbrev prog : Program := PySem.Challenge.pw_hiddenturns_k62_relations_have_a_basis
def topS (i : Nat) : Stmt := prog.main.body.getD i (.Pass ⟨0, 0, 0, 0⟩)
abbrev s_unit : Stmt := topS 1
abbrev s_less_times : Stmt := topS 2
abbrev s_lead : Stmt := topS 3
abbrev s_gathered : Stmt := topS 5
abbrev s_positive : Stmt := topS 6
abbrev s_lowered : Stmt := topS 7
abbrev s_stairs : Stmt := topS 8
abbrev s_basis_of : Stmt := topS 10
abbrev s_relations : Stmt := topS 11
abbrev s__law_draw : Stmt := topS 14
abbrev s__law_is_table : Stmt := topS 15
abbrev s__law_rank : Stmt := topS 16
abbrev s__law_place : Stmt := topS 17
abbrev s__law_is_basis : Stmt := topS 18
abbrev s__law_steps : Stmt := topS 19
section
variable {P : Program} {w : World} {K : PySem.W.Frag} {mg : Str → Option Value} {base : Heap} -- ht
abbrev N_unit : List Str := ["n", "i", "j"]
theorem sc_unit : FnScope N_unit ["n"] (defScope s_unit) := ⟨rfl, rfl, rfl, by decide +kernel, rfl, by decide +kernel, by decide +kernel⟩
def b_unit : SF := (sRet (asD (lLc [1] (lRng1 (eVar 0)) (gSet 1) bTrue (asD (lLc [2] (lRng1 (eVar 0)) (gSet 2) bTrue (e1 kInt (e2 kEq (eVar 1) (eVar 2))))))))
theorem ok_unit {f : Addr} {fd : FuncData} {k : Nat} (hk : 40 ≤ k) (T : Bt mg) (Se : base.NoSeer) (Tr : P.given.tree = none) (F : Fun K "unit" "unit" s_unit f fd) : FnOk P w K mg base CX0 (k + 1) f fd ["n"] (spD K 1 (runF N_unit.length b_unit)) := by
  refine fn_ok (N := N_unit) F sc_unit (by decide) fun cdv A outer s H E hr => ?_
  have hu := hr.units
  have dv : Dv (cxOf CX0 P w K mg base N_unit "unit" (defScope s_unit) f cdv A outer s H E).nox := dv_of hk hr Se Tr rfl rfl
  exact (s_one (s_ret (f_v (f_lc (own := [("i", 1)]) (kp_name 1) rfl sc_unit.nd (i_weak (i_range1 (by rfl) T.range (v_name 0 (pv 0)))) (blkOk_by (N := N_unit) (sc := (defScope s_unit)) (by decide +kernel))
      (fun _ _ _ _ _ => (g_name 1 (pg_name (i := 1) sc_unit.nd rfl (.inr rfl)))) (fun _ _ _ _ _ => ts_nil)
      (fun _ _ _ _ _ => (f_v (f_lc (own := [("j", 2)]) (kp_name 2) rfl sc_unit.nd (i_weak (i_range1 (by rfl) T.range (v_name 0 (pv 0)))) (blkOk_by (N := N_unit) (sc := (relS { kind := .function, names := [(".0", .local), ("i", .cell), ("range", .globalImplicit), ("n", .free)], isGenerator := false, isCoroutine := false, more := [] } (defScope s_unit))) (by decide +kernel))
      (fun _ _ _ _ _ => (g_name 2 (pg_name (i := 2) sc_unit.nd rfl (.inl rfl)))) (fun _ _ _ _ _ => ts_nil)
      (fun _ _ _ _ _ => (v_ty1 fn_int (by rfl) T.int bt_int (v_w (v_eq hu (v_w (v_name 1 (pv 1))) (v_w (v_name 2 (pv 2))))))))))))))
noncomputable def F_unit : FF := runF N_unit.length b_unit
abbrev N_less_times : List Str := ["row", "times", "other", "number", "part"]
theorem sc_less_times : FnScope N_less_times ["row", "times", "other"] (defScope s_less_times) := ⟨rfl, rfl, rfl, by decide +kernel, rfl, by decide +kernel, by decide +kernel⟩
def b_less_times : SF := (sRet (asD (lLc [3, 4] (lZip (eVar 0) (eVar 2)) (gTupD 2 (gsCons (gSet 3) (gsCons (gSet 4) gsNil))) bTrue (e2 kSub (eVar 3) (e2 kMul (eVar 1) (eVar 4))))))
theorem ok_less_times {f : Addr} {fd : FuncData} {k : Nat} (hk : 40 ≤ k) (T : Bt mg) (Se : base.NoSeer) (Tr : P.given.tree = none) (F : Fun K "less_times" "less_times" s_less_times f fd) : FnOk P w K mg base CX0 (k + 1) f fd ["row", "times", "other"] (spD K 3 (runF N_less_times.length b_less_times)) := by
  refine fn_ok (N := N_less_times) F sc_less_times (by decide) fun cdv A outer s H E hr => ?_
  have hu := hr.units
  have dv : Dv (cxOf CX0 P w K mg base N_less_times "less_times" (defScope s_less_times) f cdv A outer s H E).nox := dv_of hk hr Se Tr rfl rfl
  exact (s_one (s_ret (f_v (f_lc (own := [("number", 3), ("part", 4)]) (kp_tup (kps_cons (kp_name 3) (kps_cons (kp_name 4) kps_nil))) rfl sc_less_times.nd (i_weak (i_zip (by rfl) T.zip (v_name 0 (pv 0)) (v_name 2 (pv 2)))) (blkOk_by (N := N_less_times) (sc := (defScope s_less_times)) (by decide +kernel))
      (fun _ _ _ _ _ => (g_tup rfl (gs_cons (g_name 3 (pg_name (i := 3) sc_less_times.nd rfl (.inl rfl))) (gs_cons (g_name 4 (pg_name (i := 4) sc_less_times.nd rfl (.inl rfl))) gs_nil)))) (fun _ _ _ _ _ => ts_nil)
      (fun _ _ _ _ _ => (v_op op2_sub (v_name 3 (pv 3)) (v_op op2_mul (v_name 1 (pv 1)) (v_name 4 (pv 4)))))))))
noncomputable def F_less_times : FF := runF N_less_times.length b_less_times
abbrev N_lead : List Str := ["row", "spots", "j", "number"]
theorem sc_lead : FnScope N_lead ["row"] (defScope s_lead) := ⟨rfl, rfl, rfl, by decide +kernel, rfl, by decide +kernel, by decide +kernel⟩
def b_lead : SF := (sSeq (sSet 1 (asD (lLc [2, 3] (lEnum (asL (eVar 0))) (gTupD 2 (gsCons (gSet 2) (gsCons (gSet 3) gsNil))) (bOf (e2 kNe (eVar 3) (eK (.int 0)))) (eVar 2)))) (sRet (eIf (bOf (e2 kNe (eVar 1) (asD (lLst aNil)))) (e2 ixD (eVar 1) (eK (.int 0))) (eK .non))))
theorem ok_lead {f : Addr} {fd : FuncData} {k : Nat} (hk : 40 ≤ k) (T : Bt mg) (Se : base.NoSeer) (Tr : P.given.tree = none) (F : Fun K "lead" "lead" s_lead f fd) : FnOk P w K mg base CX0 (k + 1) f fd ["row"] (spD K 1 (runF N_lead.length b_lead)) := by
  refine fn_ok (N := N_lead) F sc_lead (by decide) fun cdv A outer s H E hr => ?_
  have hu := hr.units
  have dv : Dv (cxOf CX0 P w K mg base N_lead "lead" (defScope s_lead) f cdv A outer s H E).nox := dv_of hk hr Se Tr rfl rfl
  exact (s_cons (s_set (ps_setLc (i := 1) (own := [("j", 2), ("number", 3)]) rfl sc_lead.nd rfl rfl (sw_true rfl rfl rfl (by decide +kernel)) (i_weak (i_enumV (by rfl) T.enumerate (v_name 0 (pv 0)))) (blkOk_by (N := N_lead) (sc := (defScope s_lead)) (by decide +kernel))
      (fun _ _ _ _ _ => (g_tup rfl (gs_cons (g_name 2 (pg_name (i := 2) sc_lead.nd rfl (.inl rfl))) (gs_cons (g_name 3 (pg_name (i := 3) sc_lead.nd rfl (.inl rfl))) gs_nil)))) (fun _ _ _ _ _ => (ts_one (c_ne hu (v_w (v_name 3 (pv 3))) (v_w v_int))))
      (fun _ _ _ _ _ => (v_name 2 (pv 2)))) fun _ _ _ z => lc_read ((kp_tup (kps_cons (kp_name 2) (kps_cons (kp_name 3) kps_nil)))) (by decide) (tF_of_tV z))
    (s_one (s_ret (v_if (c_ne hu (v_w (v_name 1 (pv 1))) (v_w (f_v (f_lst a_nil)))) (v_ix (v_name 1 (pv 1)) v_int) v_non))))
noncomputable def F_lead : FF := runF N_lead.length b_lead
abbrev N_gathered : List Str := ["lines", "j", "others", "left", "least", "row", "maker", "near", "line", "times", "fresh", "pair", "i"]
theorem sc_gathered : FnScope N_gathered ["lines", "j"] (defScope s_gathered) := ⟨rfl, rfl, rfl, by decide +kernel, rfl, by decide +kernel, by decide +kernel⟩
noncomputable def b_gathered : SF := (sSeq (sOwn 2 (lLc [11] (asL (eVar 0)) (gSet 11) (bOf (e2 kEq (e2 ixD (e2 ixD (eVar 11) (eK (.int 0))) (eVar 1)) (eK (.int 0)))) (eVar 11))) (sSeq (sSet 3 (asD (lLc [11] (asL (eVar 0)) (gSet 11) (bOf (e2 kNe (e2 ixD (e2 ixD (eVar 11) (eK (.int 0))) (eVar 1)) (eK (.int 0)))) (eVar 11)))) (sSeq (sWhile (bOf (e2 (kCmp fun i j => decide (j < i)) (e1 kLen (eVar 3)) (eK (.int 1)))) (sSeq (sSet 4 (e2 ixD (eMin2 (lLc [12, 11] (lEnum (asL (eVar 3))) (gTupD 2 (gsCons (gSet 12) (gsCons (gSet 11) gsNil))) bTrue (eTup (aCons (e1 kAbs (e2 ixD (e2 ixD (eVar 11) (eK (.int 0))) (eVar 1))) (aCons (eVar 12) aNil))))) (eK (.int 1)))) (sSeq (sAsg (gTupD 2 (gsCons (gSet 5) (gsCons (gSet 6) gsNil))) (e2 ixD (eVar 3) (eVar 4))) (sSeq (sOwn 7 (lLst (aCons (e2 ixD (eVar 3) (eVar 4)) aNil))) (sSeq (sFor (asL (asD (lCat (lCut (asL (eVar 3)) oNone (oSome (eVar 4))) (lCut (asL (eVar 3)) (oSome (e2 kAdd (eVar 4) (eK (.int 1)))) oNone)))) (gSet 8) (sSeq (sSet 9 (e2 kDiv (e2 ixD (e2 ixD (eVar 8) (eK (.int 0))) (eVar 1)) (e2 ixD (eVar 5) (eVar 1)))) (sSeq (sSet 10 (eTup (aCons (eCallN 3 F_less_times (aCons (e2 ixD (eVar 8) (eK (.int 0))) (aCons (eVar 9) (aCons (eVar 5) aNil)))) (aCons (eCallN 3 F_less_times (aCons (e2 ixD (eVar 8) (eK (.int 1))) (aCons (eVar 9) (aCons (eVar 6) aNil)))) aNil)))) (sIf (bOf (e2 kEq (e2 ixD (e2 ixD (eVar 10) (eK (.int 0))) (eVar 1)) (eK (.int 0)))) (sApp 2 (eVar 10)) (sApp 7 (eVar 10)))))) (sFz 7 (sSet 3 (eVar 7)))))))) (sFz 2 (sRet (eTup (aCons (eIf (bOf (e2 kNe (eVar 3) (asD (lLst aNil)))) (e2 ixD (eVar 3) (eK (.int 0))) (eK .non)) (aCons (eVar 2) aNil))))))))
theorem ok_gathered {f : Addr} {fd : FuncData} {k : Nat} (hk : 40 ≤ k) (T : Bt mg) (Se : base.NoSeer) (Tr : P.given.tree = none) {f_less_times : Addr} {fd_less_times : FuncData} (F : Fun K "gathered" "gathered" s_gathered f fd) (D_less_times : Fun K "less_times" "less_times" s_less_times f_less_times fd_less_times) (B_less_times : Binds K fd_less_times ["row", "times", "other"] []) (G_less_times : FnOk P w K mg base CX0 k f_less_times fd_less_times ["row", "times", "other"] (spD K 3 F_less_times)) (M_less_times : mg "less_times" = some (.ref f_less_times)) : FnOk P w K mg base CX0 (k + 1) f fd ["lines", "j"] (spD K 2 (runF N_gathered.length b_gathered)) := by
  refine fn_ok (N := N_gathered) F sc_gathered (by decide) fun cdv A outer s H E hr => ?_
  have hu := hr.units
  have dv : Dv (cxOf CX0 P w K mg base N_gathered "gathered" (defScope s_gathered) f cdv A outer s H E).nox := dv_of hk hr Se Tr rfl rfl
  exact (s_cons (s_own (ps_setLc (i := 2) (own := [("pair", 11)]) rfl sc_gathered.nd rfl rfl (sw_true rfl rfl rfl (by decide +kernel)) (i_weak (i_list (v_name 0 (pv 0)))) (blkOk_by (N := N_gathered) (sc := (defScope s_gathered)) (by decide +kernel))
      (fun _ _ _ _ _ => (g_name 11 (pg_name (i := 11) sc_gathered.nd rfl (.inl rfl)))) (fun _ _ _ _ _ => (ts_one (c_eq hu (v_w (v_ix (v_ix (v_name 11 (pv 11)) v_int) (v_name 1 (pv 1)))) (v_w v_int))))
      (fun _ _ _ _ _ => (v_name 11 (pv 11)))) fun _ _ _ z => lc_read ((kp_name 11)) (by decide) (z))
    (s_cons (s_set (ps_setLc (i := 3) (own := [("pair", 11)]) rfl sc_gathered.nd rfl rfl (sw_true rfl rfl rfl (by decide +kernel)) (i_weak (i_list (v_name 0 (pv 0)))) (blkOk_by (N := N_gathered) (sc := (defScope s_gathered)) (by decide +kernel))
      (fun _ _ _ _ _ => (g_name 11 (pg_name (i := 11) sc_gathered.nd rfl (.inl rfl)))) (fun _ _ _ _ _ => (ts_one (c_ne hu (v_w (v_ix (v_ix (v_name 11 (pv 11)) v_int) (v_name 1 (pv 1)))) (v_w v_int))))
      (fun _ _ _ _ _ => (v_name 11 (pv 11)))) fun _ _ _ z => lc_read ((kp_name 11)) (by decide) (tF_of_tV z))
    (s_cons (s_while PassesOwn.never (c_cmp op2_gt (v_fn1 fn_len (by rfl) T.len bt_len (v_w (v_name 3 (pv 3)))) v_int (nomark _)) (s_cons (s_set (ps_set (i := 4) sc_gathered.nd rfl (.inl rfl) (v_ix (v_min2 rfl hu (by rfl) T.min (f_l (f_lc (own := [("i", 12), ("pair", 11)]) (kp_tup (kps_cons (kp_name 12) (kps_cons (kp_name 11) kps_nil))) rfl sc_gathered.nd (i_weak (i_enumV (by rfl) T.enumerate (v_name 3 (pv 3)))) (blkOk_by (N := N_gathered) (sc := (defScope s_gathered)) (by decide +kernel))
      (fun _ _ _ _ _ => (g_tup rfl (gs_cons (g_name 12 (pg_name (i := 12) sc_gathered.nd rfl (.inl rfl))) (gs_cons (g_name 11 (pg_name (i := 11) sc_gathered.nd rfl (.inl rfl))) gs_nil)))) (fun _ _ _ _ _ => ts_nil)
      (fun _ _ _ _ _ => (v_tup (a_cons (v_fn1 fn_abs (by rfl) T.abs bt_abs (v_w (v_ix (v_ix (v_name 11 (pv 11)) v_int) (v_name 1 (pv 1))))) (a_cons (v_name 12 (pv 12)) a_nil))))))) v_int)) fun _ _ _ z => z)
    (s_cons (s_asg (ps_asg (v_ix (v_name 3 (pv 3)) (v_name 4 (pv 4))) (g_tup rfl (gs_cons (g_name 5 (pg_name (i := 5) sc_gathered.nd rfl (.inl rfl))) (gs_cons (g_name 6 (pg_name (i := 6) sc_gathered.nd rfl (.inl rfl))) gs_nil)))) fun _ _ _ z => z)
    (s_cons (s_own (ps_set (i := 7) sc_gathered.nd rfl (.inl rfl) (f_lst (a_cons (v_ix (v_name 3 (pv 3)) (v_name 4 (pv 4))) a_nil))) fun _ _ _ z => z)
    (s_cons (s_for PassesOwn.never rfl (i_list (f_v (f_cat (f_l (f_slice (v_l (v_name 3 (pv 3))) o_none (o_some (v_name 4 (pv 4))))) (f_l (f_slice (v_l (v_name 3 (pv 3))) (o_some (v_op op2_add (v_name 4 (pv 4)) v_int)) o_none))))) (g_name 8 (pg_name (i := 8) sc_gathered.nd rfl (.inl rfl))) (s_cons (s_set (ps_set (i := 9) sc_gathered.nd rfl (.inl rfl) (v_op (op2_div dv) (v_ix (v_ix (v_name 8 (pv 8)) v_int) (v_name 1 (pv 1))) (v_ix (v_name 5 (pv 5)) (v_name 1 (pv 1))))) fun _ _ _ z => z)
    (s_cons (s_set (ps_set (i := 10) sc_gathered.nd rfl (.inl rfl) (v_tup (a_cons (v_call G_less_times hr (by rfl) M_less_times D_less_times.kp B_less_times (a_cons (v_ix (v_name 8 (pv 8)) v_int) (a_cons (v_name 9 (pv 9)) (a_cons (v_name 5 (pv 5)) a_nil)))) (a_cons (v_call G_less_times hr (by rfl) M_less_times D_less_times.kp B_less_times (a_cons (v_ix (v_name 8 (pv 8)) v_int) (a_cons (v_name 9 (pv 9)) (a_cons (v_name 6 (pv 6)) a_nil)))) a_nil)))) fun _ _ _ z => z)
    (s_one (s_if (c_eq hu (v_w (v_ix (v_ix (v_name 10 (pv 10)) v_int) (v_name 1 (pv 1)))) (v_w v_int)) (s_one (s_app (ps_expr (pe_bm PySem.F.plainAttrs_list PySem.F.slot_list_append PySem.F.type_list_append mt_append (pv 2) (pa_cons (v_name 10 (pv 10)) pa_nil))) fun _ _ _ z => z)) (s_one (s_app (ps_expr (pe_bm PySem.F.plainAttrs_list PySem.F.slot_list_append PySem.F.type_list_append mt_append (pv 7) (pa_cons (v_name 10 (pv 10)) pa_nil))) fun _ _ _ z => z)))))))
    (s_one (s_fz 7 (s_set (ps_set (i := 3) sc_gathered.nd rfl (.inl rfl) (v_name 7 (pv 7))) fun _ _ _ z => z))))))))
    (s_one (s_fz 2 (s_ret (v_tup (a_cons (v_if (c_ne hu (v_w (v_name 3 (pv 3))) (v_w (f_v (f_lst a_nil)))) (v_ix (v_name 3 (pv 3)) v_int) v_non) (a_cons (v_name 2 (pv 2)) a_nil)))))))))
noncomputable def F_gathered : FF := runF N_gathered.length b_gathered
abbrev N_positive : List Str := ["line", "j", "row", "maker", "number"]
theorem sc_positive : FnScope N_positive ["line", "j"] (defScope s_positive) := ⟨rfl, rfl, rfl, by decide +kernel, rfl, by decide +kernel, by decide +kernel⟩
def b_positive : SF := (sSeq (sAsg (gTupD 2 (gsCons (gSet 2) (gsCons (gSet 3) gsNil))) (eVar 0)) (sSeq (sIf (bOf (e2 (kCmp fun i j => decide (j < i)) (e2 ixD (eVar 2) (eVar 1)) (eK (.int 0)))) (sRet (eVar 0)) sNext) (sRet (eTup (aCons (asD (lLc [4] (asL (eVar 2)) (gSet 4) bTrue (e1 kNeg (eVar 4)))) (aCons (asD (lLc [4] (asL (eVar 3)) (gSet 4) bTrue (e1 kNeg (eVar 4)))) aNil))))))
theorem ok_positive {f : Addr} {fd : FuncData} {k : Nat} (hk : 40 ≤ k) (T : Bt mg) (Se : base.NoSeer) (Tr : P.given.tree = none) (F : Fun K "positive" "positive" s_positive f fd) : FnOk P w K mg base CX0 (k + 1) f fd ["line", "j"] (spD K 2 (runF N_positive.length b_positive)) := by
  refine fn_ok (N := N_positive) F sc_positive (by decide) fun cdv A outer s H E hr => ?_
  have hu := hr.units
  have dv : Dv (cxOf CX0 P w K mg base N_positive "positive" (defScope s_positive) f cdv A outer s H E).nox := dv_of hk hr Se Tr rfl rfl
  exact (s_cons (s_asg (ps_asg (v_name 0 (pv 0)) (g_tup rfl (gs_cons (g_name 2 (pg_name (i := 2) sc_positive.nd rfl (.inl rfl))) (gs_cons (g_name 3 (pg_name (i := 3) sc_positive.nd rfl (.inl rfl))) gs_nil)))) fun _ _ _ z => z)
    (s_cons (s_if (c_cmp op2_gt (v_ix (v_name 2 (pv 2)) (v_name 1 (pv 1))) v_int (nomark _)) (s_one (s_ret (v_name 0 (pv 0)))) s_nil)
    (s_one (s_ret (v_tup (a_cons (f_v (f_lc (own := [("number", 4)]) (kp_name 4) rfl sc_positive.nd (i_weak (i_list (v_name 2 (pv 2)))) (blkOk_by (N := N_positive) (sc := (defScope s_positive)) (by decide +kernel))
      (fun _ _ _ _ _ => (g_name 4 (pg_name (i := 4) sc_positive.nd rfl (.inl rfl)))) (fun _ _ _ _ _ => ts_nil)
      (fun _ _ _ _ _ => (v_neg (v_name 4 (pv 4)))))) (a_cons (f_v (f_lc (own := [("number", 4)]) (kp_name 4) rfl sc_positive.nd (i_weak (i_list (v_name 3 (pv 3)))) (blkOk_by (N := N_positive) (sc := (defScope s_positive)) (by decide +kernel))
      (fun _ _ _ _ _ => (g_name 4 (pg_name (i := 4) sc_positive.nd rfl (.inl rfl)))) (fun _ _ _ _ _ => ts_nil)
      (fun _ _ _ _ _ => (v_neg (v_name 4 (pv 4)))))) a_nil)))))))
noncomputable def F_positive : FF := runF N_positive.length b_positive
abbrev N_lowered : List Str := ["found", "line", "row", "maker", "j", "fresh", "elder", "elder_maker", "times"]
theorem sc_lowered : FnScope N_lowered ["found", "line"] (defScope s_lowered) := ⟨rfl, rfl, rfl, by decide +kernel, rfl, by decide +kernel, by decide +kernel⟩
noncomputable def b_lowered : SF := (sSeq (sAsg (gTupD 2 (gsCons (gSet 2) (gsCons (gSet 3) gsNil))) (eVar 1)) (sSeq (sSet 4 (eCallN 1 F_lead (aCons (eVar 2) aNil))) (sSeq (sOwn 5 (lLst aNil)) (sSeq (sFor (asL (eVar 0)) (gTupD 2 (gsCons (gSet 6) (gsCons (gSet 7) gsNil))) (sSeq (sSet 8 (e2 kDiv (e2 ixD (eVar 6) (eVar 4)) (e2 ixD (eVar 2) (eVar 4)))) (sApp 5 (eTup (aCons (eCallN 3 F_less_times (aCons (eVar 6) (aCons (eVar 8) (aCons (eVar 2) aNil)))) (aCons (eCallN 3 F_less_times (aCons (eVar 7) (aCons (eVar 8) (aCons (eVar 3) aNil)))) aNil)))))) (sFz 5 (sRet (eVar 5)))))))
theorem ok_lowered {f : Addr} {fd : FuncData} {k : Nat} (hk : 40 ≤ k) (T : Bt mg) (Se : base.NoSeer) (Tr : P.given.tree = none) {f_lead : Addr} {fd_lead : FuncData} {f_less_times : Addr} {fd_less_times : FuncData} (F : Fun K "lowered" "lowered" s_lowered f fd) (D_lead : Fun K "lead" "lead" s_lead f_lead fd_lead) (B_lead : Binds K fd_lead ["row"] []) (G_lead : FnOk P w K mg base CX0 k f_lead fd_lead ["row"] (spD K 1 F_lead)) (M_lead : mg "lead" = some (.ref f_lead)) (D_less_times : Fun K "less_times" "less_times" s_less_times f_less_times fd_less_times) (B_less_times : Binds K fd_less_times ["row", "times", "other"] []) (G_less_times : FnOk P w K mg base CX0 k f_less_times fd_less_times ["row", "times", "other"] (spD K 3 F_less_times)) (M_less_times : mg "less_times" = some (.ref f_less_times)) : FnOk P w K mg base CX0 (k + 1) f fd ["found", "line"] (spD K 2 (runF N_lowered.length b_lowered)) := by
  refine fn_ok (N := N_lowered) F sc_lowered (by decide) fun cdv A outer s H E hr => ?_
  have hu := hr.units
  have dv : Dv (cxOf CX0 P w K mg base N_lowered "lowered" (defScope s_lowered) f cdv A outer s H E).nox := dv_of hk hr Se Tr rfl rfl
  exact (s_cons (s_asg (ps_asg (v_name 1 (pv 1)) (g_tup rfl (gs_cons (g_name 2 (pg_name (i := 2) sc_lowered.nd rfl (.inl rfl))) (gs_cons (g_name 3 (pg_name (i := 3) sc_lowered.nd rfl (.inl rfl))) gs_nil)))) fun _ _ _ z => z)
    (s_cons (s_set (ps_set (i := 4) sc_lowered.nd rfl (.inl rfl) (v_call G_lead hr (by rfl) M_lead D_lead.kp B_lead (a_cons (v_name 2 (pv 2)) a_nil))) fun _ _ _ z => z)
    (s_cons (s_own (ps_set (i := 5) sc_lowered.nd rfl (.inl rfl) (f_lst a_nil)) fun _ _ _ z => z)
    (s_cons (s_for PassesOwn.never rfl (i_list (v_name 0 (pv 0))) (g_tup rfl (gs_cons (g_name 6 (pg_name (i := 6) sc_lowered.nd rfl (.inl rfl))) (gs_cons (g_name 7 (pg_name (i := 7) sc_lowered.nd rfl (.inl rfl))) gs_nil))) (s_cons (s_set (ps_set (i := 8) sc_lowered.nd rfl (.inl rfl) (v_op (op2_div dv) (v_ix (v_name 6 (pv 6)) (v_name 4 (pv 4))) (v_ix (v_name 2 (pv 2)) (v_name 4 (pv 4))))) fun _ _ _ z => z)
    (s_one (s_app (ps_expr (pe_bm PySem.F.plainAttrs_list PySem.F.slot_list_append PySem.F.type_list_append mt_append (pv 5) (pa_cons (v_tup (a_cons (v_call G_less_times hr (by rfl) M_less_times D_less_times.kp B_less_times (a_cons (v_name 6 (pv 6)) (a_cons (v_name 8 (pv 8)) (a_cons (v_name 2 (pv 2)) a_nil)))) (a_cons (v_call G_less_times hr (by rfl) M_less_times D_less_times.kp B_less_times (a_cons (v_name 7 (pv 7)) (a_cons (v_name 8 (pv 8)) (a_cons (v_name 3 (pv 3)) a_nil)))) a_nil))) pa_nil))) fun _ _ _ z => z))))
    (s_one (s_fz 5 (s_ret (v_name 5 (pv 5)))))))))
noncomputable def F_lowered : FF := runF N_lowered.length b_lowered
abbrev N_stairs : List Str := ["rows", "lines", "found", "j", "line", "row", "maker"]
theorem sc_stairs : FnScope N_stairs ["rows"] (defScope s_stairs) := ⟨rfl, rfl, rfl, by decide +kernel, rfl, by decide +kernel, by decide +kernel⟩
noncomputable def b_stairs : SF := (sSeq (sSet 1 (asD (lBd (lZip (asD (lLc [5] (asL (eVar 0)) (gSet 5) bTrue (asD (asL (eVar 5))))) (eCallN 1 F_unit (aCons (e1 kLen (eVar 0)) aNil)))))) (sSeq (sSet 2 (asD (lLst aNil))) (sSeq (sFor (lRng1 (eIf (bOf (e2 (kCmp fun i j => decide (j < i)) (e1 kLen (eVar 0)) (eK (.int 0)))) (e1 kLen (e2 ixD (eVar 0) (eK (.int 0)))) (eK (.int 0)))) (gSet 3) (sSeq (sAsg (gTupD 2 (gsCons (gSet 4) (gsCons (gSet 1) gsNil))) (eCallN 2 F_gathered (aCons (eVar 1) (aCons (eVar 3) aNil)))) (sIf (bOf (e2 kIsNot (eVar 4) (eK .non))) (sSeq (sSet 4 (eCallN 2 F_positive (aCons (eVar 4) (aCons (eVar 3) aNil)))) (sSet 2 (asD (lCat (asL (eCallN 2 F_lowered (aCons (eVar 2) (aCons (eVar 4) aNil)))) (lLst (aCons (eVar 4) aNil)))))) sNext))) (sRet (eTup (aCons (asD (lLc [5, 6] (asL (eVar 2)) (gTupD 2 (gsCons (gSet 5) (gsCons (gSet 6) gsNil))) bTrue (eVar 5))) (aCons (asD (lLc [5, 6] (asL (eVar 2)) (gTupD 2 (gsCons (gSet 5) (gsCons (gSet 6) gsNil))) bTrue (eVar 6))) (aCons (asD (lLc [5, 6] (asL (eVar 1)) (gTupD 2 (gsCons (gSet 5) (gsCons (gSet 6) gsNil))) bTrue (eVar 6))) aNil))))))))
theorem ok_stairs {f : Addr} {fd : FuncData} {k : Nat} (hk : 40 ≤ k) (T : Bt mg) (Se : base.NoSeer) (Tr : P.given.tree = none) {f_gathered : Addr} {fd_gathered : FuncData} {f_lowered : Addr} {fd_lowered : FuncData} {f_positive : Addr} {fd_positive : FuncData} {f_unit : Addr} {fd_unit : FuncData} (F : Fun K "stairs" "stairs" s_stairs f fd) (D_gathered : Fun K "gathered" "gathered" s_gathered f_gathered fd_gathered) (B_gathered : Binds K fd_gathered ["lines", "j"] []) (G_gathered : FnOk P w K mg base CX0 k f_gathered fd_gathered ["lines", "j"] (spD K 2 F_gathered)) (M_gathered : mg "gathered" = some (.ref f_gathered)) (D_lowered : Fun K "lowered" "lowered" s_lowered f_lowered fd_lowered) (B_lowered : Binds K fd_lowered ["found", "line"] []) (G_lowered : FnOk P w K mg base CX0 k f_lowered fd_lowered ["found", "line"] (spD K 2 F_lowered)) (M_lowered : mg "lowered" = some (.ref f_lowered)) (D_positive : Fun K "positive" "positive" s_positive f_positive fd_positive) (B_positive : Binds K fd_positive ["line", "j"] []) (G_positive : FnOk P w K mg base CX0 k f_positive fd_positive ["line", "j"] (spD K 2 F_positive)) (M_positive : mg "positive" = some (.ref f_positive)) (D_unit : Fun K "unit" "unit" s_unit f_unit fd_unit) (B_unit : Binds K fd_unit ["n"] []) (G_unit : FnOk P w K mg base CX0 k f_unit fd_unit ["n"] (spD K 1 F_unit)) (M_unit : mg "unit" = some (.ref f_unit)) : FnOk P w K mg base CX0 (k + 1) f fd ["rows"] (spD K 1 (runF N_stairs.length b_stairs)) := by
  refine fn_ok (N := N_stairs) F sc_stairs (by decide) fun cdv A outer s H E hr => ?_
  have hu := hr.units
  have dv : Dv (cxOf CX0 P w K mg base N_stairs "stairs" (defScope s_stairs) f cdv A outer s H E).nox := dv_of hk hr Se Tr rfl rfl
  exact (s_cons (s_set (ps_set (i := 1) sc_stairs.nd rfl (.inl rfl) (f_v (f_listZip rfl (by rfl) T.list (by rfl) T.zip (f_v (f_lc (own := [("row", 5)]) (kp_name 5) rfl sc_stairs.nd (i_weak (i_list (v_name 0 (pv 0)))) (blkOk_by (N := N_stairs) (sc := (defScope s_stairs)) (by decide +kernel))
      (fun _ _ _ _ _ => (g_name 5 (pg_name (i := 5) sc_stairs.nd rfl (.inl rfl)))) (fun _ _ _ _ _ => ts_nil)
      (fun _ _ _ _ _ => (f_v (f_list (by rfl) T.list (v_l (v_name 5 (pv 5)))))))) (v_call G_unit hr (by rfl) M_unit D_unit.kp B_unit (a_cons (v_fn1 fn_len (by rfl) T.len bt_len (v_w (v_name 0 (pv 0)))) a_nil))))) fun _ _ _ z => z)
    (s_cons (s_set (ps_set (i := 2) sc_stairs.nd rfl (.inl rfl) (f_v (f_lst a_nil))) fun _ _ _ z => z)
    (s_cons (s_for PassesOwn.never rfl (i_range1 (by rfl) T.range (v_if (c_cmp op2_gt (v_fn1 fn_len (by rfl) T.len bt_len (v_w (v_name 0 (pv 0)))) v_int (nomark _)) (v_fn1 fn_len (by rfl) T.len bt_len (v_w (v_ix (v_name 0 (pv 0)) v_int))) v_int)) (g_name 3 (pg_name (i := 3) sc_stairs.nd rfl (.inl rfl))) (s_cons (s_asg (ps_asg (v_call G_gathered hr (by rfl) M_gathered D_gathered.kp B_gathered (a_cons (v_name 1 (pv 1)) (a_cons (v_name 3 (pv 3)) a_nil))) (g_tup rfl (gs_cons (g_name 4 (pg_name (i := 4) sc_stairs.nd rfl (.inl rfl))) (gs_cons (g_name 1 (pg_name (i := 1) sc_stairs.nd rfl (.inl rfl))) gs_nil)))) fun _ _ _ z => z)
    (s_one (s_if (c_cmp op2_isNot (v_name 4 (pv 4)) v_non (nomark _)) (s_cons (s_set (ps_set (i := 4) sc_stairs.nd rfl (.inl rfl) (v_call G_positive hr (by rfl) M_positive D_positive.kp B_positive (a_cons (v_name 4 (pv 4)) (a_cons (v_name 3 (pv 3)) a_nil)))) fun _ _ _ z => z)
    (s_one (s_set (ps_set (i := 2) sc_stairs.nd rfl (.inl rfl) (f_v (f_cat (v_l (v_call G_lowered hr (by rfl) M_lowered D_lowered.kp B_lowered (a_cons (v_name 2 (pv 2)) (a_cons (v_name 4 (pv 4)) a_nil)))) (f_l (f_lst (a_cons (v_name 4 (pv 4)) a_nil)))))) fun _ _ _ z => z))) s_nil))))
    (s_one (s_ret (v_tup (a_cons (f_v (f_lc (own := [("row", 5), ("maker", 6)]) (kp_tup (kps_cons (kp_name 5) (kps_cons (kp_name 6) kps_nil))) rfl sc_stairs.nd (i_weak (i_list (v_name 2 (pv 2)))) (blkOk_by (N := N_stairs) (sc := (defScope s_stairs)) (by decide +kernel))
      (fun _ _ _ _ _ => (g_tup rfl (gs_cons (g_name 5 (pg_name (i := 5) sc_stairs.nd rfl (.inl rfl))) (gs_cons (g_name 6 (pg_name (i := 6) sc_stairs.nd rfl (.inl rfl))) gs_nil)))) (fun _ _ _ _ _ => ts_nil)
      (fun _ _ _ _ _ => (v_name 5 (pv 5))))) (a_cons (f_v (f_lc (own := [("row", 5), ("maker", 6)]) (kp_tup (kps_cons (kp_name 5) (kps_cons (kp_name 6) kps_nil))) rfl sc_stairs.nd (i_weak (i_list (v_name 2 (pv 2)))) (blkOk_by (N := N_stairs) (sc := (defScope s_stairs)) (by decide +kernel))
      (fun _ _ _ _ _ => (g_tup rfl (gs_cons (g_name 5 (pg_name (i := 5) sc_stairs.nd rfl (.inl rfl))) (gs_cons (g_name 6 (pg_name (i := 6) sc_stairs.nd rfl (.inl rfl))) gs_nil)))) (fun _ _ _ _ _ => ts_nil)
      (fun _ _ _ _ _ => (v_name 6 (pv 6))))) (a_cons (f_v (f_lc (own := [("row", 5), ("maker", 6)]) (kp_tup (kps_cons (kp_name 5) (kps_cons (kp_name 6) kps_nil))) rfl sc_stairs.nd (i_weak (i_list (v_name 1 (pv 1)))) (blkOk_by (N := N_stairs) (sc := (defScope s_stairs)) (by decide +kernel))
      (fun _ _ _ _ _ => (g_tup rfl (gs_cons (g_name 5 (pg_name (i := 5) sc_stairs.nd rfl (.inl rfl))) (gs_cons (g_name 6 (pg_name (i := 6) sc_stairs.nd rfl (.inl rfl))) gs_nil)))) (fun _ _ _ _ _ => ts_nil)
      (fun _ _ _ _ _ => (v_name 6 (pv 6))))) a_nil)))))))))
noncomputable def F_stairs : FF := runF N_stairs.length b_stairs
abbrev N_basis_of : List Str := ["steps", "found", "makers", "zeros", "inverse", "step"]
theorem sc_basis_of : FnScope N_basis_of ["steps"] (defScope s_basis_of) := ⟨rfl, rfl, rfl, by decide +kernel, rfl, by decide +kernel, by decide +kernel⟩
noncomputable def b_basis_of : SF := (sSeq (sIf (bOf (e2 kEq (eVar 0) (asD (lLst aNil)))) (sRet (eTup (aCons (asD (lLst aNil)) (aCons (asD (lLst aNil)) (aCons (asD (lLst aNil)) aNil))))) sNext) (sSeq (sAsg (gTupD 3 (gsCons (gSet 1) (gsCons (gSet 2) (gsCons (gSet 3) gsNil)))) (eCallN 1 F_stairs (aCons (asD (lLc [5] (asL (eVar 0)) (gSet 5) bTrue (asD (asT (eVar 5))))) aNil))) (sSeq (sSet 4 (e2 ixD (eCallN 1 F_stairs (aCons (asD (lCat (asL (eVar 3)) (asL (eVar 2)))) aNil)) (eK (.int 1)))) (sRet (eTup (aCons (eVar 3) (aCons (eVar 2) (aCons (eVar 4) aNil))))))))
theorem ok_basis_of {f : Addr} {fd : FuncData} {k : Nat} (hk : 40 ≤ k) (T : Bt mg) (Se : base.NoSeer) (Tr : P.given.tree = none) {f_stairs : Addr} {fd_stairs : FuncData} (F : Fun K "basis_of" "basis_of" s_basis_of f fd) (D_stairs : Fun K "stairs" "stairs" s_stairs f_stairs fd_stairs) (B_stairs : Binds K fd_stairs ["rows"] []) (G_stairs : FnOk P w K mg base CX0 k f_stairs fd_stairs ["rows"] (spD K 1 F_stairs)) (M_stairs : mg "stairs" = some (.ref f_stairs)) : FnOk P w K mg base CX0 (k + 1) f fd ["steps"] (spD K 1 (runF N_basis_of.length b_basis_of)) := by
  refine fn_ok (N := N_basis_of) F sc_basis_of (by decide) fun cdv A outer s H E hr => ?_
  have hu := hr.units
  have dv : Dv (cxOf CX0 P w K mg base N_basis_of "basis_of" (defScope s_basis_of) f cdv A outer s H E).nox := dv_of hk hr Se Tr rfl rfl
  exact (s_cons (s_if (c_eq hu (v_w (v_name 0 (pv 0))) (v_w (f_v (f_lst a_nil)))) (s_one (s_ret (v_tup (a_cons (f_v (f_lst a_nil)) (a_cons (f_v (f_lst a_nil)) (a_cons (f_v (f_lst a_nil)) a_nil)))))) s_nil)
    (s_cons (s_asg (ps_asg (v_call G_stairs hr (by rfl) M_stairs D_stairs.kp B_stairs (a_cons (f_v (f_lc (own := [("step", 5)]) (kp_name 5) rfl sc_basis_of.nd (i_weak (i_list (v_name 0 (pv 0)))) (blkOk_by (N := N_basis_of) (sc := (defScope s_basis_of)) (by decide +kernel))
      (fun _ _ _ _ _ => (g_name 5 (pg_name (i := 5) sc_basis_of.nd rfl (.inl rfl)))) (fun _ _ _ _ _ => ts_nil)
      (fun _ _ _ _ _ => (f_v (f_listT (by rfl) T.list (v_name 5 (pv 5))))))) a_nil)) (g_tup rfl (gs_cons (g_name 1 (pg_name (i := 1) sc_basis_of.nd rfl (.inl rfl))) (gs_cons (g_name 2 (pg_name (i := 2) sc_basis_of.nd rfl (.inl rfl))) (gs_cons (g_name 3 (pg_name (i := 3) sc_basis_of.nd rfl (.inl rfl))) gs_nil))))) fun _ _ _ z => z)
    (s_cons (s_set (ps_set (i := 4) sc_basis_of.nd rfl (.inl rfl) (v_ix (v_call G_stairs hr (by rfl) M_stairs D_stairs.kp B_stairs (a_cons (f_v (f_cat (v_l (v_name 3 (pv 3))) (v_l (v_name 2 (pv 2))))) a_nil)) v_int)) fun _ _ _ z => z)
    (s_one (s_ret (v_tup (a_cons (v_name 3 (pv 3)) (a_cons (v_name 2 (pv 2)) (a_cons (v_name 4 (pv 4)) a_nil)))))))))
noncomputable def F_basis_of : FF := runF N_basis_of.length b_basis_of
abbrev N_relations : List Str := ["steps"]
theorem sc_relations : FnScope N_relations ["steps"] (defScope s_relations) := ⟨rfl, rfl, rfl, by decide +kernel, rfl, by decide +kernel, by decide +kernel⟩
noncomputable def b_relations : SF := (sRet (eCallN 1 F_basis_of (aCons (eVar 0) aNil)))
theorem ok_relations {f : Addr} {fd : FuncData} {k : Nat} (hk : 40 ≤ k) (T : Bt mg) (Se : base.NoSeer) (Tr : P.given.tree = none) {f_basis_of : Addr} {fd_basis_of : FuncData} (F : Fun K "relations" "relations" s_relations f fd) (D_basis_of : Fun K "basis_of" "basis_of" s_basis_of f_basis_of fd_basis_of) (B_basis_of : Binds K fd_basis_of ["steps"] []) (G_basis_of : FnOk P w K mg base CX0 k f_basis_of fd_basis_of ["steps"] (spD K 1 F_basis_of)) (M_basis_of : mg "basis_of" = some (.ref f_basis_of)) : FnOk P w K mg base CX0 (k + 1) f fd ["steps"] (spD K 1 (runF N_relations.length b_relations)) := by
  refine fn_ok (N := N_relations) F sc_relations (by decide) fun cdv A outer s H E hr => ?_
  have hu := hr.units
  have dv : Dv (cxOf CX0 P w K mg base N_relations "relations" (defScope s_relations) f cdv A outer s H E).nox := dv_of hk hr Se Tr rfl rfl
  exact (s_one (s_ret (v_call G_basis_of hr (by rfl) M_basis_of D_basis_of.kp B_basis_of (a_cons (v_name 0 (pv 0)) a_nil))))
noncomputable def F_relations : FF := runF N_relations.length b_relations
abbrev N__law_draw : List Str := ["_law_pen_here", "_law_many", "_law_digit", "_law_at", "_law_cell", "_law_great", "_law_mixed"]
theorem sc__law_draw : FnScope N__law_draw ["_law_pen_here", "_law_many"] (defScope s__law_draw) := ⟨rfl, rfl, rfl, by decide +kernel, rfl, by decide +kernel, by decide +kernel⟩
def b__law_draw : SF := (sSeq (sIf (bOf (e2 (kCmp fun i j => decide (j < i)) (eIxM (eVar 0) (eK (.int 2))) (eK (.int 0)))) (sSeq (sSet 2 (e2 kMod (e1 kInt (eIxM (eVar 0) (eK (.int 2)))) (eVar 1))) (sSeq (sSetM 0 (eK (.int 2)) (e2 kDiv (eIxM (eVar 0) (eK (.int 2))) (eVar 1))) (sRet (eVar 2)))) sNext) (sSeq (sSet 3 (eIxM (eVar 0) (eK (.int 1)))) (sSeq (sSetM 0 (eK (.int 1)) (e2 kAdd (eVar 3) (eK (.int 1)))) (sSeq (sSet 4 (e2 kAdd (e2 kMul (eK (.int 60107)) (eVar 3)) (eK (.int 271)))) (sSeq (sIf (bOf (e2 kNe (eIxM (eVar 0) (eK (.int 0))) (asD (lLst aNil)))) (sSet 4 (e2 ixD (eIxM (eVar 0) (eK (.int 0))) (e2 kMod (e1 kInt (eVar 3)) (e1 kLen (eIxM (eVar 0) (eK (.int 0))))))) sNext) (sSeq (sIf (bAnd (bOf (e2 (kCmp fun i j => decide (i < j)) (eVar 3) (e1 kLen (eIxM (eVar 0) (eK (.int 0)))))) (bOf (e2 (kCmp fun i j => decide (j ≤ i)) (e1 kAbs (eVar 4)) (e2 kPow (eK (.int 10)) (eK (.int 18)))))) (sSeq (sSet 5 (e2 kAdd (e2 kMul (eK (.int 2)) (e1 kAbs (eVar 4))) (e1 kInt (e2 (kCmp fun i j => decide (i < j)) (eVar 4) (eK (.int 0)))))) (sSeq (sSetM 0 (eK (.int 2)) (e2 kDiv (eVar 5) (eVar 1))) (sRet (e2 kMod (e1 kInt (eVar 5)) (eVar 1))))) sNext) (sSeq (sSet 6 (e2 kMod (e1 kInt (e2 kPow (e2 kAdd (e2 kAdd (e2 kAdd (e2 kMod (e1 kInt (eVar 4)) (eK (.int 2147483563))) (e2 kMul (e2 kMul (eK (.int 57457)) (eVar 3)) (eVar 3))) (e2 kMul (eK (.int 60107)) (eVar 3))) (eK (.int 29))) (eK (.int 5)))) (eK (.int 2147483647)))) (sSeq (sSet 6 (e2 kMod (e1 kInt (e2 kPow (e2 kAdd (e2 kAdd (e2 kMul (eVar 6) (e2 kAdd (e2 kMul (eK (.int 2)) (eVar 3)) (eK (.int 31)))) (e2 kMul (eK (.int 271)) (eVar 3))) (eK (.int 5))) (eK (.int 3)))) (eK (.int 2147483587)))) (sRet (e2 kMod (e1 kInt (e2 kDiv (eVar 6) (eK (.int 32)))) (eVar 1)))))))))))
theorem ok__law_draw {f : Addr} {fd : FuncData} {k : Nat} (hk : 40 ≤ k) (T : Bt mg) (Se : base.NoSeer) (Tr : P.given.tree = none) (F : Fun K "_law_draw" "_law_draw" s__law_draw f fd) : FnOk P w K mg base CX0 (k + 1) f fd ["_law_pen_here", "_law_many"] (spD K 2 (runF N__law_draw.length b__law_draw)) := by
  refine fn_ok (N := N__law_draw) F sc__law_draw (by decide) fun cdv A outer s H E hr => ?_
  have hu := hr.units
  have dv : Dv (cxOf CX0 P w K mg base N__law_draw "_law_draw" (defScope s__law_draw) f cdv A outer s H E).nox := dv_of hk hr Se Tr rfl rfl
  exact (s_cons (s_if (c_cmp op2_gt (v_ixM (v_name 0 (pv 0)) v_int) v_int (nomark _)) (s_cons (s_set (ps_set (i := 2) sc__law_draw.nd rfl (.inl rfl) (v_op op2_mod (v_ty1 fn_int (by rfl) T.int bt_int (v_w (v_ixM (v_name 0 (pv 0)) v_int))) (v_name 1 (pv 1)))) fun _ _ _ z => z)
    (s_cons (s_setM (tn := 0) (ps_asg (v_op (op2_div dv) (v_ixM (v_name 0 (pv 0)) v_int) (v_name 1 (pv 1))) (pg_sub (pv 0) v_int set_list)))
    (s_one (s_ret (v_name 2 (pv 2)))))) s_nil)
    (s_cons (s_set (ps_set (i := 3) sc__law_draw.nd rfl (.inl rfl) (v_ixM (v_name 0 (pv 0)) v_int)) fun _ _ _ z => z)
    (s_cons (s_setM (tn := 0) (ps_asg (v_op op2_add (v_name 3 (pv 3)) v_int) (pg_sub (pv 0) v_int set_list)))
    (s_cons (s_set (ps_set (i := 4) sc__law_draw.nd rfl (.inl rfl) (v_op op2_add (v_op op2_mul v_int (v_name 3 (pv 3))) v_int)) fun _ _ _ z => z)
    (s_cons (s_if (c_ne hu (v_w (v_ixM (v_name 0 (pv 0)) v_int)) (v_w (f_v (f_lst a_nil)))) (s_one (s_set (ps_set (i := 4) sc__law_draw.nd rfl (.inl rfl) (v_ix (v_ixM (v_name 0 (pv 0)) v_int) (v_op op2_mod (v_ty1 fn_int (by rfl) T.int bt_int (v_w (v_name 3 (pv 3)))) (v_fn1 fn_len (by rfl) T.len bt_len (v_w (v_ixM (v_name 0 (pv 0)) v_int)))))) fun _ _ _ z => z)) s_nil)
    (s_cons (s_if (c_w (c_and (c_cmp op2_lt (v_name 3 (pv 3)) (v_fn1 fn_len (by rfl) T.len bt_len (v_w (v_ixM (v_name 0 (pv 0)) v_int))) (nomark _)) (c_and1 (c_cmp op2_ge (v_fn1 fn_abs (by rfl) T.abs bt_abs (v_w (v_name 4 (pv 4)))) (v_op op2_pow v_int v_int) (nomark _))))) (s_cons (s_set (ps_set (i := 5) sc__law_draw.nd rfl (.inl rfl) (v_op op2_add (v_op op2_mul v_int (v_fn1 fn_abs (by rfl) T.abs bt_abs (v_w (v_name 4 (pv 4))))) (v_ty1 fn_int (by rfl) T.int bt_int (v_w (v_cmp op2_lt (v_name 4 (pv 4)) v_int (nomark _)))))) fun _ _ _ z => z)
    (s_cons (s_setM (tn := 0) (ps_asg (v_op (op2_div dv) (v_name 5 (pv 5)) (v_name 1 (pv 1))) (pg_sub (pv 0) v_int set_list)))
    (s_one (s_ret (v_op op2_mod (v_ty1 fn_int (by rfl) T.int bt_int (v_w (v_name 5 (pv 5)))) (v_name 1 (pv 1))))))) s_nil)
    (s_cons (s_set (ps_set (i := 6) sc__law_draw.nd rfl (.inl rfl) (v_op op2_mod (v_ty1 fn_int (by rfl) T.int bt_int (v_w (v_op op2_pow (v_op op2_add (v_op op2_add (v_op op2_add (v_op op2_mod (v_ty1 fn_int (by rfl) T.int bt_int (v_w (v_name 4 (pv 4)))) v_int) (v_op op2_mul (v_op op2_mul v_int (v_name 3 (pv 3))) (v_name 3 (pv 3)))) (v_op op2_mul v_int (v_name 3 (pv 3)))) v_int) v_int))) v_int)) fun _ _ _ z => z)
    (s_cons (s_set (ps_set (i := 6) sc__law_draw.nd rfl (.inl rfl) (v_op op2_mod (v_ty1 fn_int (by rfl) T.int bt_int (v_w (v_op op2_pow (v_op op2_add (v_op op2_add (v_op op2_mul (v_name 6 (pv 6)) (v_op op2_add (v_op op2_mul v_int (v_name 3 (pv 3))) v_int)) (v_op op2_mul v_int (v_name 3 (pv 3)))) v_int) v_int))) v_int)) fun _ _ _ z => z)
    (s_one (s_ret (v_op op2_mod (v_ty1 fn_int (by rfl) T.int bt_int (v_w (v_op (op2_div dv) (v_name 6 (pv 6)) v_int))) (v_name 1 (pv 1)))))))))))))
noncomputable def F__law_draw : FF := runF N__law_draw.length b__law_draw
abbrev N__law_is_table : List Str := ["_law_part", "_law_many", "_law_row", "_law_one"]
theorem sc__law_is_table : FnScope N__law_is_table ["_law_part", "_law_many"] (defScope s__law_is_table) := ⟨rfl, rfl, rfl, by decide +kernel, rfl, by decide +kernel, by decide +kernel⟩
def b__law_is_table : SF := (sSeq (sIf (bNot (bOf (e1 (kIsi "list") (eVar 0)))) (sRet (eK (.bl false))) sNext) (sSeq (sFor (asL (eVar 0)) (gSet 2) (sSeq (sIf (bOr (bNot (bOf (e1 (kIsi "list") (eVar 2)))) (bOf (e2 kNe (e1 kLen (eVar 2)) (eVar 1)))) (sRet (eK (.bl false))) sNext) (sIf (bOf (e2 kNe (asD (lLc [3] (asL (eVar 2)) (gSet 3) (bOr (bNot (bOf (e1 (kIsi "int") (eVar 3)))) (bOf (e1 (kIsi "bool") (eVar 3)))) (eVar 3))) (asD (lLst aNil)))) (sRet (eK (.bl false))) sNext))) (sRet (eK (.bl true)))))
theorem ok__law_is_table {f : Addr} {fd : FuncData} {k : Nat} (hk : 40 ≤ k) (T : Bt mg) (Se : base.NoSeer) (Tr : P.given.tree = none) (F : Fun K "_law_is_table" "_law_is_table" s__law_is_table f fd) : FnOk P w K mg base CX0 (k + 1) f fd ["_law_part", "_law_many"] (spD K 2 (runF N__law_is_table.length b__law_is_table)) := by
  refine fn_ok (N := N__law_is_table) F sc__law_is_table (by decide) fun cdv A outer s H E hr => ?_
  have hu := hr.units
  have dv : Dv (cxOf CX0 P w K mg base N__law_is_table "_law_is_table" (defScope s__law_is_table) f cdv A outer s H E).nox := dv_of hk hr Se Tr rfl rfl
  exact (s_cons (s_if (c_not (c_val (v_isi (T := "list") (by rfl) T.isinstance (by rfl) T.list (v_w (v_name 0 (pv 0)))))) (s_one (s_ret v_bl)) s_nil)
    (s_cons (s_for PassesOwn.never rfl (i_list (v_name 0 (pv 0))) (g_name 2 (pg_name (i := 2) sc__law_is_table.nd rfl (.inl rfl))) (s_cons (s_if (c_w (c_or (c_not (c_val (v_isi (T := "list") (by rfl) T.isinstance (by rfl) T.list (v_w (v_name 2 (pv 2)))))) (c_or1 (c_ne hu (v_w (v_fn1 fn_len (by rfl) T.len bt_len (v_w (v_name 2 (pv 2))))) (v_w (v_name 1 (pv 1))))))) (s_one (s_ret v_bl)) s_nil)
    (s_one (s_if (c_ne hu (v_w (f_v (f_lc (own := [("_law_one", 3)]) (kp_name 3) rfl sc__law_is_table.nd (i_weak (i_list (v_name 2 (pv 2)))) (blkOk_by (N := N__law_is_table) (sc := (defScope s__law_is_table)) (by decide +kernel))
      (fun _ _ _ _ _ => (g_name 3 (pg_name (i := 3) sc__law_is_table.nd rfl (.inl rfl)))) (fun _ _ _ _ _ => (ts_one (c_w (c_or (c_not (c_val (v_isi (T := "int") (by rfl) T.isinstance (by rfl) T.int (v_w (v_name 3 (pv 3)))))) (c_or1 (c_val (v_isi (T := "bool") (by rfl) T.isinstance (by rfl) T.bool (v_w (v_name 3 (pv 3))))))))))
      (fun _ _ _ _ _ => (v_name 3 (pv 3)))))) (v_w (f_v (f_lst a_nil)))) (s_one (s_ret v_bl)) s_nil))))
    (s_one (s_ret v_bl))))
noncomputable def F__law_is_table : FF := runF N__law_is_table.length b__law_is_table
abbrev N__law_rank : List Str := ["_law_rows", "_law_left", "_law_rank_here", "_law_first", "_law_leads", "_law_at", "_law_row", "_law_k"]
theorem sc__law_rank : FnScope N__law_rank ["_law_rows"] (defScope s__law_rank) := ⟨rfl, rfl, rfl, by decide +kernel, rfl, by decide +kernel, by decide +kernel⟩
noncomputable def b__law_rank : SF := (sSeq (sOwn 1 (lLc [6] (asL (eVar 0)) (gSet 6) bTrue (asD (asL (eVar 6))))) (sSeq (sSet 2 (eK (.int 0))) (sSeq (sWhile (bOf (e2 kNe (asD (lVar 1)) (asD (lLst aNil)))) (sSeq (sPop 1 3) (sSeq (sSet 4 (asD (lLc [7] (lRng1 (e1 kLen (eVar 3))) (gSet 7) (bOf (e2 kNe (e2 ixD (eVar 3) (eVar 7)) (eK (.int 0)))) (eVar 7)))) (sIf (bOf (e2 kNe (eVar 4) (asD (lLst aNil)))) (sSeq (sAug 2 (fun i j => i + j) (eK (.int 1))) (sSeq (sSet 5 (e2 ixD (eVar 4) (eK (.int 0)))) (sOwn 1 (lLc [6] (lVar 1) (gSet 6) bTrue (asD (lLc [7] (lRng1 (e1 kLen (eVar 6))) (gSet 7) bTrue (e2 kSub (e2 kMul (e2 ixD (eVar 6) (eVar 7)) (e2 ixD (eVar 3) (eVar 5))) (e2 kMul (e2 ixD (eVar 3) (eVar 7)) (e2 ixD (eVar 6) (eVar 5)))))))))) sNext)))) (sRet (eVar 2)))))
theorem ok__law_rank {f : Addr} {fd : FuncData} {k : Nat} (hk : 40 ≤ k) (T : Bt mg) (Se : base.NoSeer) (Tr : P.given.tree = none) (F : Fun K "_law_rank" "_law_rank" s__law_rank f fd) : FnOk P w K mg base CX0 (k + 1) f fd ["_law_rows"] (spD K 1 (runF N__law_rank.length b__law_rank)) := by
  refine fn_ok (N := N__law_rank) F sc__law_rank (by decide) fun cdv A outer s H E hr => ?_
  have hu := hr.units
  have dv : Dv (cxOf CX0 P w K mg base N__law_rank "_law_rank" (defScope s__law_rank) f cdv A outer s H E).nox := dv_of hk hr Se Tr rfl rfl
  exact (s_cons (s_own (ps_setLc (i := 1) (own := [("_law_row", 6)]) rfl sc__law_rank.nd rfl rfl (sw_true rfl rfl rfl (by decide +kernel)) (i_weak (i_list (v_name 0 (pv 0)))) (blkOk_by (N := N__law_rank) (sc := (defScope s__law_rank)) (by decide +kernel))
      (fun _ _ _ _ _ => (g_name 6 (pg_name (i := 6) sc__law_rank.nd rfl (.inl rfl)))) (fun _ _ _ _ _ => pts_nil)
      (fun _ _ _ _ _ => (f_v (f_list (by rfl) T.list (v_l (v_name 6 (pv 6))))))) fun _ _ _ z => lc_yes (lc_read ((kp_name 6)) (by decide) (z)))
    (s_cons (s_set (ps_set (i := 2) sc__law_rank.nd rfl (.inl rfl) v_int) fun _ _ _ z => z)
    (s_cons (s_while PassesOwn.never (c_ne hu (l_w (l_name 1 (pv 1))) (v_w (f_v (f_lst a_nil)))) (s_cons (s_pop (ps_set (i := 3) sc__law_rank.nd rfl (.inr rfl) (pe_bm0 PySem.F.plainAttrs_list PySem.F.slot_list_pop PySem.F.type_list_pop mt_pop (pv 1))))
    (s_cons (s_set (ps_setLc (i := 4) (own := [("_law_k", 7)]) rfl sc__law_rank.nd rfl rfl (sw_true rfl rfl rfl (by decide +kernel)) (i_weak (i_range1 (by rfl) T.range (v_fn1 fn_len (by rfl) T.len bt_len (v_w (v_name 3 (pv 3)))))) (blkOk_by (N := N__law_rank) (sc := (defScope s__law_rank)) (by decide +kernel))
      (fun _ _ _ _ _ => (g_name 7 (pg_name (i := 7) sc__law_rank.nd rfl (.inl rfl)))) (fun _ _ _ _ _ => (ts_one (c_ne hu (v_w (v_ix (v_name 3 (pv 3)) (v_name 7 (pv 7)))) (v_w v_int))))
      (fun _ _ _ _ _ => (v_name 7 (pv 7)))) fun _ _ _ z => lc_read ((kp_name 7)) (by decide) (tF_of_tV z))
    (s_one (s_if (c_ne hu (v_w (v_name 4 (pv 4))) (v_w (f_v (f_lst a_nil)))) (s_cons (s_aug (ps_aug (i := 2) sc__law_rank.nd rfl (.inl rfl) v_int ip_add) fun _ _ _ z => z)
    (s_cons (s_set (ps_set (i := 5) sc__law_rank.nd rfl (.inr rfl) (v_ix (v_name 4 (pv 4)) v_int)) fun _ _ _ z => z)
    (s_one (s_own (ps_setLc (i := 1) (own := [("_law_row", 6)]) rfl sc__law_rank.nd rfl rfl (sw_true rfl rfl rfl (by decide +kernel)) (i_own (l_name 1 (pv 1))) (blkOk_by (N := N__law_rank) (sc := (defScope s__law_rank)) (by decide +kernel))
      (fun _ _ _ _ _ => (g_name 6 (pg_name (i := 6) sc__law_rank.nd rfl (.inr rfl)))) (fun _ _ _ _ _ => pts_nil)
      (fun _ _ _ _ _ => (f_v (f_lc (own := [("_law_k", 7)]) (kp_name 7) rfl sc__law_rank.nd (i_weak (i_range1 (by rfl) T.range (v_fn1 fn_len (by rfl) T.len bt_len (v_w (v_name 6 (pv 6)))))) (blkOk_by (N := N__law_rank) (sc := (relS { kind := .function, names := [(".0", .local), ("_law_row", .cell), ("range", .globalImplicit), ("len", .globalImplicit), ("_law_at", .free), ("_law_first", .free)], isGenerator := false, isCoroutine := false, more := [] } (defScope s__law_rank))) (by decide +kernel))
      (fun _ _ _ _ _ => (g_name 7 (pg_name (i := 7) sc__law_rank.nd rfl (.inl rfl)))) (fun _ _ _ _ _ => ts_nil)
      (fun _ _ _ _ _ => (v_op op2_sub (v_op op2_mul (v_ix (v_name 6 (pv 6)) (v_name 7 (pv 7))) (v_ix (v_name 3 (pv 3)) (v_name 5 (pv 5)))) (v_op op2_mul (v_ix (v_name 3 (pv 3)) (v_name 7 (pv 7))) (v_ix (v_name 6 (pv 6)) (v_name 5 (pv 5)))))))))) fun _ _ _ z => lc_yes (lc_read ((kp_name 6)) (by decide) (z)))))) s_nil)))))
    (s_one (s_ret (v_name 2 (pv 2)))))))
noncomputable def F__law_rank : FF := runF N__law_rank.length b__law_rank
abbrev N__law_place : List Str := ["_law_ways", "_law_row", "_law_k", "_law_i"]
theorem sc__law_place : FnScope N__law_place ["_law_ways", "_law_row"] (defScope s__law_place) := ⟨rfl, rfl, rfl, by decide +kernel, rfl, by decide +kernel, by decide +kernel⟩
def b__law_place : SF := (sRet (asD (lLc [2] (lRng1 (e1 kLen (e2 ixD (eVar 0) (eK (.int 0))))) (gSet 2) bTrue (e1 kSum (asD (lLc [3] (lRng1 (e1 kLen (eVar 0))) (gSet 3) bTrue (e2 kMul (e2 ixD (eVar 1) (eVar 3)) (e2 ixD (e2 ixD (eVar 0) (eVar 3)) (eVar 2)))))))))
theorem ok__law_place {f : Addr} {fd : FuncData} {k : Nat} (hk : 40 ≤ k) (T : Bt mg) (Se : base.NoSeer) (Tr : P.given.tree = none) (F : Fun K "_law_place" "_law_place" s__law_place f fd) : FnOk P w K mg base CX0 (k + 1) f fd ["_law_ways", "_law_row"] (spD K 2 (runF N__law_place.length b__law_place)) := by
  refine fn_ok (N := N__law_place) F sc__law_place (by decide) fun cdv A outer s H E hr => ?_
  have hu := hr.units
  have dv : Dv (cxOf CX0 P w K mg base N__law_place "_law_place" (defScope s__law_place) f cdv A outer s H E).nox := dv_of hk hr Se Tr rfl rfl
  exact (s_one (s_ret (f_v (f_lc (own := [("_law_k", 2)]) (kp_name 2) rfl sc__law_place.nd (i_weak (i_range1 (by rfl) T.range (v_fn1 fn_len (by rfl) T.len bt_len (v_w (v_ix (v_name 0 (pv 0)) v_int))))) (blkOk_by (N := N__law_place) (sc := (defScope s__law_place)) (by decide +kernel))
      (fun _ _ _ _ _ => (g_name 2 (pg_name (i := 2) sc__law_place.nd rfl (.inr rfl)))) (fun _ _ _ _ _ => ts_nil)
      (fun _ _ _ _ _ => (v_fn1 (fn_sum rfl) (by rfl) T.sum bt_sum (v_w (f_v (f_lc (own := [("_law_i", 3)]) (kp_name 3) rfl sc__law_place.nd (i_weak (i_range1 (by rfl) T.range (v_fn1 fn_len (by rfl) T.len bt_len (v_w (v_name 0 (pv 0)))))) (blkOk_by (N := N__law_place) (sc := (relS { kind := .function, names := [(".0", .local), ("_law_k", .cell), ("sum", .globalImplicit), ("range", .globalImplicit), ("len", .globalImplicit), ("_law_row", .free), ("_law_ways", .free)], isGenerator := false, isCoroutine := false, more := [] } (defScope s__law_place))) (by decide +kernel))
      (fun _ _ _ _ _ => (g_name 3 (pg_name (i := 3) sc__law_place.nd rfl (.inl rfl)))) (fun _ _ _ _ _ => ts_nil)
      (fun _ _ _ _ _ => (v_op op2_mul (v_ix (v_name 1 (pv 1)) (v_name 3 (pv 3))) (v_ix (v_ix (v_name 0 (pv 0)) (v_name 3 (pv 3))) (v_name 2 (pv 2))))))))))))))
noncomputable def F__law_place : FF := runF N__law_place.length b__law_place
abbrev N__law_is_basis : List Str := ["_law_ways", "_law_rows", "_law_others", "_law_back", "_law_many", "_law_table", "_law_i", "_law_j", "_law_row", "_law_number", "_law_k"]
theorem sc__law_is_basis : FnScope N__law_is_basis ["_law_ways", "_law_rows", "_law_others", "_law_back"] (defScope s__law_is_basis) := ⟨rfl, rfl, rfl, by decide +kernel, rfl, by decide +kernel, by decide +kernel⟩
noncomputable def b__law_is_basis : SF := (sSeq (sSet 4 (e1 kLen (eVar 0))) (sSeq (sIf (bOr (bNot (bOf (eCallN 2 F__law_is_table (aCons (eVar 1) (aCons (eVar 4) aNil))))) (bOr (bNot (bOf (eCallN 2 F__law_is_table (aCons (eVar 2) (aCons (eVar 4) aNil))))) (bNot (bOf (eCallN 2 F__law_is_table (aCons (eVar 3) (aCons (eVar 4) aNil))))))) (sRet (eK (.bl false))) sNext) (sSeq (sIf (bOr (bOf (e2 kNe (e2 kAdd (e1 kLen (eVar 1)) (e1 kLen (eVar 2))) (eVar 4))) (bOf (e2 kNe (e1 kLen (eVar 3)) (eVar 4)))) (sRet (eK (.bl false))) sNext) (sSeq (sSet 5 (asD (lCat (asL (eVar 1)) (asL (eVar 2))))) (sSeq (sFor (lRng1 (eVar 4)) (gSet 6) (sFor (lRng1 (eVar 4)) (gSet 7) (sIf (bOf (e2 kNe (e1 kSum (asD (lLc [10] (lRng1 (eVar 4)) (gSet 10) bTrue (e2 kMul (e2 ixD (e2 ixD (eVar 5) (eVar 6)) (eVar 10)) (e2 ixD (e2 ixD (eVar 3) (eVar 10)) (eVar 7)))))) (e1 kInt (e2 kEq (eVar 6) (eVar 7))))) (sRet (eK (.bl false))) sNext))) (sSeq (sFor (asL (eVar 1)) (gSet 8) (sIf (bOf (e2 kNe (asD (lLc [9] (asL (eCallN 2 F__law_place (aCons (eVar 0) (aCons (eVar 8) aNil)))) (gSet 9) (bOf (e2 kNe (eVar 9) (eK (.int 0)))) (eVar 9))) (asD (lLst aNil)))) (sRet (eK (.bl false))) sNext)) (sRet (e2 kEq (eCallN 1 F__law_rank (aCons (asD (lLc [8] (asL (eVar 2)) (gSet 8) bTrue (eCallN 2 F__law_place (aCons (eVar 0) (aCons (eVar 8) aNil))))) aNil)) (e1 kLen (eVar 2))))))))))
theorem ok__law_is_basis {f : Addr} {fd : FuncData} {k : Nat} (hk : 40 ≤ k) (T : Bt mg) (Se : base.NoSeer) (Tr : P.given.tree = none) {f__law_is_table : Addr} {fd__law_is_table : FuncData} {f__law_place : Addr} {fd__law_place : FuncData} {f__law_rank : Addr} {fd__law_rank : FuncData} (F : Fun K "_law_is_basis" "_law_is_basis" s__law_is_basis f fd) (D__law_is_table : Fun K "_law_is_table" "_law_is_table" s__law_is_table f__law_is_table fd__law_is_table) (B__law_is_table : Binds K fd__law_is_table ["_law_part", "_law_many"] []) (G__law_is_table : FnOk P w K mg base CX0 k f__law_is_table fd__law_is_table ["_law_part", "_law_many"] (spD K 2 F__law_is_table)) (M__law_is_table : mg "_law_is_table" = some (.ref f__law_is_table)) (D__law_place : Fun K "_law_place" "_law_place" s__law_place f__law_place fd__law_place) (B__law_place : Binds K fd__law_place ["_law_ways", "_law_row"] []) (G__law_place : FnOk P w K mg base CX0 k f__law_place fd__law_place ["_law_ways", "_law_row"] (spD K 2 F__law_place)) (M__law_place : mg "_law_place" = some (.ref f__law_place)) (D__law_rank : Fun K "_law_rank" "_law_rank" s__law_rank f__law_rank fd__law_rank) (B__law_rank : Binds K fd__law_rank ["_law_rows"] []) (G__law_rank : FnOk P w K mg base CX0 k f__law_rank fd__law_rank ["_law_rows"] (spD K 1 F__law_rank)) (M__law_rank : mg "_law_rank" = some (.ref f__law_rank)) : FnOk P w K mg base CX0 (k + 1) f fd ["_law_ways", "_law_rows", "_law_others", "_law_back"] (spD K 4 (runF N__law_is_basis.length b__law_is_basis)) := by
  refine fn_ok (N := N__law_is_basis) F sc__law_is_basis (by decide) fun cdv A outer s H E hr => ?_
  have hu := hr.units
  have dv : Dv (cxOf CX0 P w K mg base N__law_is_basis "_law_is_basis" (defScope s__law_is_basis) f cdv A outer s H E).nox := dv_of hk hr Se Tr rfl rfl
  exact (s_cons (s_set (ps_set (i := 4) sc__law_is_basis.nd rfl (.inl rfl) (v_fn1 fn_len (by rfl) T.len bt_len (v_w (v_name 0 (pv 0))))) fun _ _ _ z => z)
    (s_cons (s_if (c_w (c_or (c_not (c_val (v_call G__law_is_table hr (by rfl) M__law_is_table D__law_is_table.kp B__law_is_table (a_cons (v_name 1 (pv 1)) (a_cons (v_name 4 (pv 4)) a_nil))))) (c_or (c_not (c_val (v_call G__law_is_table hr (by rfl) M__law_is_table D__law_is_table.kp B__law_is_table (a_cons (v_name 2 (pv 2)) (a_cons (v_name 4 (pv 4)) a_nil))))) (c_or1 (c_not (c_val (v_call G__law_is_table hr (by rfl) M__law_is_table D__law_is_table.kp B__law_is_table (a_cons (v_name 3 (pv 3)) (a_cons (v_name 4 (pv 4)) a_nil))))))))) (s_one (s_ret v_bl)) s_nil)
    (s_cons (s_if (c_w (c_or (c_ne hu (v_w (v_op op2_add (v_fn1 fn_len (by rfl) T.len bt_len (v_w (v_name 1 (pv 1)))) (v_fn1 fn_len (by rfl) T.len bt_len (v_w (v_name 2 (pv 2)))))) (v_w (v_name 4 (pv 4)))) (c_or1 (c_ne hu (v_w (v_fn1 fn_len (by rfl) T.len bt_len (v_w (v_name 3 (pv 3))))) (v_w (v_name 4 (pv 4))))))) (s_one (s_ret v_bl)) s_nil)
    (s_cons (s_set (ps_set (i := 5) sc__law_is_basis.nd rfl (.inr rfl) (f_v (f_cat (v_l (v_name 1 (pv 1))) (v_l (v_name 2 (pv 2)))))) fun _ _ _ z => z)
    (s_cons (s_for PassesOwn.never rfl (i_range1 (by rfl) T.range (v_name 4 (pv 4))) (g_name 6 (pg_name (i := 6) sc__law_is_basis.nd rfl (.inr rfl))) (s_one (s_for PassesOwn.never rfl (i_range1 (by rfl) T.range (v_name 4 (pv 4))) (g_name 7 (pg_name (i := 7) sc__law_is_basis.nd rfl (.inr rfl))) (s_one (s_if (c_ne hu (v_w (v_fn1 (fn_sum rfl) (by rfl) T.sum bt_sum (v_w (f_v (f_lc (own := [("_law_k", 10)]) (kp_name 10) rfl sc__law_is_basis.nd (i_weak (i_range1 (by rfl) T.range (v_name 4 (pv 4)))) (blkOk_by (N := N__law_is_basis) (sc := (defScope s__law_is_basis)) (by decide +kernel))
      (fun _ _ _ _ _ => (g_name 10 (pg_name (i := 10) sc__law_is_basis.nd rfl (.inl rfl)))) (fun _ _ _ _ _ => ts_nil)
      (fun _ _ _ _ _ => (v_op op2_mul (v_ix (v_ix (v_name 5 (pv 5)) (v_name 6 (pv 6))) (v_name 10 (pv 10))) (v_ix (v_ix (v_name 3 (pv 3)) (v_name 10 (pv 10))) (v_name 7 (pv 7)))))))))) (v_w (v_ty1 fn_int (by rfl) T.int bt_int (v_w (v_eq hu (v_w (v_name 6 (pv 6))) (v_w (v_name 7 (pv 7)))))))) (s_one (s_ret v_bl)) s_nil)))))
    (s_cons (s_for PassesOwn.never rfl (i_list (v_name 1 (pv 1))) (g_name 8 (pg_name (i := 8) sc__law_is_basis.nd rfl (.inl rfl))) (s_one (s_if (c_ne hu (v_w (f_v (f_lc (own := [("_law_number", 9)]) (kp_name 9) rfl sc__law_is_basis.nd (i_weak (i_list (v_call G__law_place hr (by rfl) M__law_place D__law_place.kp B__law_place (a_cons (v_name 0 (pv 0)) (a_cons (v_name 8 (pv 8)) a_nil))))) (blkOk_by (N := N__law_is_basis) (sc := (defScope s__law_is_basis)) (by decide +kernel))
      (fun _ _ _ _ _ => (g_name 9 (pg_name (i := 9) sc__law_is_basis.nd rfl (.inl rfl)))) (fun _ _ _ _ _ => (ts_one (c_ne hu (v_w (v_name 9 (pv 9))) (v_w v_int))))
      (fun _ _ _ _ _ => (v_name 9 (pv 9)))))) (v_w (f_v (f_lst a_nil)))) (s_one (s_ret v_bl)) s_nil)))
    (s_one (s_ret (v_eq hu (v_w (v_call G__law_rank hr (by rfl) M__law_rank D__law_rank.kp B__law_rank (a_cons (f_v (f_lc (own := [("_law_row", 8)]) (kp_name 8) rfl sc__law_is_basis.nd (i_weak (i_list (v_name 2 (pv 2)))) (blkOk_by (N := N__law_is_basis) (sc := (defScope s__law_is_basis)) (by decide +kernel))
      (fun _ _ _ _ _ => (g_name 8 (pg_name (i := 8) sc__law_is_basis.nd rfl (.inl rfl)))) (fun _ _ _ _ _ => ts_nil)
      (fun _ _ _ _ _ => (v_call G__law_place hr (by rfl) M__law_place D__law_place.kp B__law_place (a_cons (v_name 0 (pv 0)) (a_cons (v_name 8 (pv 8)) a_nil)))))) a_nil))) (v_w (v_fn1 fn_len (by rfl) T.len bt_len (v_w (v_name 2 (pv 2))))))))))))))
noncomputable def F__law_is_basis : FF := runF N__law_is_basis.length b__law_is_basis
abbrev N__law_steps : List Str := ["_law_pen_here", "_law_d", "_law_size", "_law_on_line", "_law_found", "_law_k", "_law_step", "_law_signed", "_law_number", "_law_i"]
theorem sc__law_steps : FnScope N__law_steps ["_law_pen_here"] (defScope s__law_steps) := ⟨rfl, rfl, rfl, by decide +kernel, rfl, by decide +kernel, by decide +kernel⟩
noncomputable def b__law_steps : SF := (sSeq (sSet 1 (e2 kAdd (eK (.int 1)) (eCallN 2 F__law_draw (aCons (eVar 0) (aCons (eK (.int 3)) aNil))))) (sSeq (sSet 2 (e2 ixD (asD (lLst (aCons (eK (.int 2)) (aCons (eK (.int 4)) (aCons (eK (.int 2000)) aNil))))) (eCallN 2 F__law_draw (aCons (eVar 0) (aCons (eK (.int 3)) aNil))))) (sSeq (sSet 3 (e2 kEq (eCallN 2 F__law_draw (aCons (eVar 0) (aCons (eK (.int 4)) aNil))) (eK (.int 0)))) (sSeq (sOwn 4 (lLst aNil)) (sSeq (sFor (lRng1 (e2 ixD (asD (lLst (aCons (eK (.int 1)) (aCons (eK (.int 2)) (aCons (eK (.int 4)) (aCons (eK (.int 7)) (aCons (eK (.int 12)) aNil))))))) (eCallN 2 F__law_draw (aCons (eVar 0) (aCons (eK (.int 5)) aNil))))) (gSet 5) (sSeq (sSet 6 (tOfL (lLc [9] (lRng1 (eVar 1)) (gSet 9) bTrue (e2 kSub (eCallN 2 F__law_draw (aCons (eVar 0) (aCons (e2 kAdd (e2 kMul (eK (.int 2)) (eVar 2)) (eK (.int 1))) aNil))) (eVar 2))))) (sSeq (sIf (bAnd (bOf (eVar 3)) (bOf (e2 kNe (asD (lVar 4)) (asD (lLst aNil))))) (sSet 6 (tOfL (lLc [8] (asT (lix (lVar 4) (eK (.int 0)))) (gSet 8) bTrue (e2 kMul (e2 kAdd (eK (.int 2)) (eVar 5)) (eVar 8))))) sNext) (sSeq (sSet 7 (asD (lLc [8] (asT (eVar 6)) (gSet 8) (bOf (e2 kNe (eVar 8) (eK (.int 0)))) (eVar 8)))) (sIf (bAnd (bOf (e2 kNe (eVar 7) (asD (lLst aNil)))) (bOf (e2 (kCmp fun i j => decide (i ≤ j)) (e1 kMax (asD (lLc [8] (asT (eVar 6)) (gSet 8) bTrue (e1 kAbs (eVar 8))))) (eK (.int 2000))))) (sSeq (sIf (bOf (e2 (kCmp fun i j => decide (i < j)) (e2 ixD (eVar 7) (eK (.int 0))) (eK (.int 0)))) (sSet 6 (tOfL (lLc [8] (asT (eVar 6)) (gSet 8) bTrue (e2 kSub (eK (.int 0)) (eVar 8))))) sNext) (sApp 4 (eVar 6))) sNext))))) (sSeq (sIf (bOf (e2 kEq (asD (lVar 4)) (asD (lLst aNil)))) (sApp 4 (e2 kCatT (eTup (aCons (eK (.int 1)) aNil)) (e2 kRepT (eTup (aCons (eK (.int 0)) aNil)) (e2 kSub (eVar 1) (eK (.int 1)))))) sNext) (sFz 4 (sRet (asD (lSortSet (asL (eVar 4))))))))))))
theorem ok__law_steps {f : Addr} {fd : FuncData} {k : Nat} (hk : 40 ≤ k) (T : Bt mg) (Se : base.NoSeer) (Tr : P.given.tree = none) {f__law_draw : Addr} {fd__law_draw : FuncData} (F : Fun K "_law_steps" "_law_steps" s__law_steps f fd) (D__law_draw : Fun K "_law_draw" "_law_draw" s__law_draw f__law_draw fd__law_draw) (B__law_draw : Binds K fd__law_draw ["_law_pen_here", "_law_many"] []) (G__law_draw : FnOk P w K mg base CX0 k f__law_draw fd__law_draw ["_law_pen_here", "_law_many"] (spD K 2 F__law_draw)) (M__law_draw : mg "_law_draw" = some (.ref f__law_draw)) : FnOk P w K mg base CX0 (k + 1) f fd ["_law_pen_here"] (spD K 1 (runF N__law_steps.length b__law_steps)) := by
  refine fn_ok (N := N__law_steps) F sc__law_steps (by decide) fun cdv A outer s H E hr => ?_
  have hu := hr.units
  have dv : Dv (cxOf CX0 P w K mg base N__law_steps "_law_steps" (defScope s__law_steps) f cdv A outer s H E).nox := dv_of hk hr Se Tr rfl rfl
  exact (s_cons (s_set (ps_set (i := 1) sc__law_steps.nd rfl (.inl rfl) (v_op op2_add v_int (v_call G__law_draw hr (by rfl) M__law_draw D__law_draw.kp B__law_draw (a_cons (v_name 0 (pv 0)) (a_cons v_int a_nil))))) fun _ _ _ z => z)
    (s_cons (s_set (ps_set (i := 2) sc__law_steps.nd rfl (.inr rfl) (v_ix (f_v (f_lst (a_cons v_int (a_cons v_int (a_cons v_int a_nil))))) (v_call G__law_draw hr (by rfl) M__law_draw D__law_draw.kp B__law_draw (a_cons (v_name 0 (pv 0)) (a_cons v_int a_nil))))) fun _ _ _ z => z)
    (s_cons (s_set (ps_set (i := 3) sc__law_steps.nd rfl (.inl rfl) (v_eq hu (v_w (v_call G__law_draw hr (by rfl) M__law_draw D__law_draw.kp B__law_draw (a_cons (v_name 0 (pv 0)) (a_cons v_int a_nil)))) (v_w v_int))) fun _ _ _ z => z)
    (s_cons (s_own (ps_set (i := 4) sc__law_steps.nd rfl (.inl rfl) (f_lst a_nil)) fun _ _ _ z => z)
    (s_cons (s_for PassesOwn.never rfl (i_range1 (by rfl) T.range (v_ix (f_v (f_lst (a_cons v_int (a_cons v_int (a_cons v_int (a_cons v_int (a_cons v_int a_nil))))))) (v_call G__law_draw hr (by rfl) M__law_draw D__law_draw.kp B__law_draw (a_cons (v_name 0 (pv 0)) (a_cons v_int a_nil))))) (g_name 5 (pg_name (i := 5) sc__law_steps.nd rfl (.inr rfl))) (s_cons (s_set (ps_set (i := 6) sc__law_steps.nd rfl (.inl rfl) (v_tuple (by rfl) T.tuple (f_l (f_lc (own := [("_law_i", 9)]) (kp_name 9) rfl sc__law_steps.nd (i_weak (i_range1 (by rfl) T.range (v_name 1 (pv 1)))) (blkOk_by (N := N__law_steps) (sc := (defScope s__law_steps)) (by decide +kernel))
      (fun _ _ _ _ _ => (g_name 9 (pg_name (i := 9) sc__law_steps.nd rfl (.inl rfl)))) (fun _ _ _ _ _ => ts_nil)
      (fun _ _ _ _ _ => (v_op op2_sub (v_call G__law_draw hr (by rfl) M__law_draw D__law_draw.kp B__law_draw (a_cons (v_name 0 (pv 0)) (a_cons (v_op op2_add (v_op op2_mul v_int (v_name 2 (pv 2))) v_int) a_nil))) (v_name 2 (pv 2)))))))) fun _ _ _ z => z)
    (s_cons (s_if (c_w (c_and (c_val (v_name 3 (pv 3))) (c_and1 (c_ne hu (l_w (l_name 4 (pv 4))) (v_w (f_v (f_lst a_nil))))))) (s_one (s_set (ps_set (i := 6) sc__law_steps.nd rfl (.inl rfl) (v_tuple (by rfl) T.tuple (f_l (f_lc (own := [("_law_number", 8)]) (kp_name 8) rfl sc__law_steps.nd (i_weak (i_tup (l_ix (l_name 4 (pv 4)) v_int))) (blkOk_by (N := N__law_steps) (sc := (defScope s__law_steps)) (by decide +kernel))
      (fun _ _ _ _ _ => (g_name 8 (pg_name (i := 8) sc__law_steps.nd rfl (.inl rfl)))) (fun _ _ _ _ _ => ts_nil)
      (fun _ _ _ _ _ => (v_op op2_mul (v_op op2_add v_int (v_name 5 (pv 5))) (v_name 8 (pv 8)))))))) fun _ _ _ z => z)) s_nil)
    (s_cons (s_set (ps_setLc (i := 7) (own := [("_law_number", 8)]) rfl sc__law_steps.nd rfl rfl (sw_true rfl rfl rfl (by decide +kernel)) (i_weak (i_tup (v_name 6 (pv 6)))) (blkOk_by (N := N__law_steps) (sc := (defScope s__law_steps)) (by decide +kernel))
      (fun _ _ _ _ _ => (g_name 8 (pg_name (i := 8) sc__law_steps.nd rfl (.inl rfl)))) (fun _ _ _ _ _ => (ts_one (c_ne hu (v_w (v_name 8 (pv 8))) (v_w v_int))))
      (fun _ _ _ _ _ => (v_name 8 (pv 8)))) fun _ _ _ z => lc_read ((kp_name 8)) (by decide) (tF_of_tV z))
    (s_one (s_if (c_w (c_and (c_ne hu (v_w (v_name 7 (pv 7))) (v_w (f_v (f_lst a_nil)))) (c_and1 (c_cmp op2_le (v_fn1 (fn_max rfl) (by rfl) T.max bt_max (v_w (f_v (f_lc (own := [("_law_number", 8)]) (kp_name 8) rfl sc__law_steps.nd (i_weak (i_tup (v_name 6 (pv 6)))) (blkOk_by (N := N__law_steps) (sc := (defScope s__law_steps)) (by decide +kernel))
      (fun _ _ _ _ _ => (g_name 8 (pg_name (i := 8) sc__law_steps.nd rfl (.inl rfl)))) (fun _ _ _ _ _ => ts_nil)
      (fun _ _ _ _ _ => (v_fn1 fn_abs (by rfl) T.abs bt_abs (v_w (v_name 8 (pv 8))))))))) v_int (nomark _))))) (s_cons (s_if (c_cmp op2_lt (v_ix (v_name 7 (pv 7)) v_int) v_int (nomark _)) (s_one (s_set (ps_set (i := 6) sc__law_steps.nd rfl (.inl rfl) (v_tuple (by rfl) T.tuple (f_l (f_lc (own := [("_law_number", 8)]) (kp_name 8) rfl sc__law_steps.nd (i_weak (i_tup (v_name 6 (pv 6)))) (blkOk_by (N := N__law_steps) (sc := (defScope s__law_steps)) (by decide +kernel))
      (fun _ _ _ _ _ => (g_name 8 (pg_name (i := 8) sc__law_steps.nd rfl (.inl rfl)))) (fun _ _ _ _ _ => ts_nil)
      (fun _ _ _ _ _ => (v_op op2_sub v_int (v_name 8 (pv 8)))))))) fun _ _ _ z => z)) s_nil)
    (s_one (s_app (ps_expr (pe_bm PySem.F.plainAttrs_list PySem.F.slot_list_append PySem.F.type_list_append mt_append (pv 4) (pa_cons (v_name 6 (pv 6)) pa_nil))) fun _ _ _ z => z))) s_nil))))))
    (s_cons (s_if (c_eq hu (l_w (l_name 4 (pv 4))) (v_w (f_v (f_lst a_nil)))) (s_one (s_app (ps_expr (pe_bm PySem.F.plainAttrs_list PySem.F.slot_list_append PySem.F.type_list_append mt_append (pv 4) (pa_cons (v_catT (v_tup (a_cons v_int a_nil)) (v_repT (v_tup (a_cons v_int a_nil)) (v_op op2_sub (v_name 1 (pv 1)) v_int))) pa_nil))) fun _ _ _ z => z)) s_nil)
    (s_one (s_fz 4 (s_ret (f_v (f_sortSet rfl hu (by rfl) T.sorted (by rfl) T.set (v_l (v_name 4 (pv 4))))))))))))))
noncomputable def F__law_steps : FF := runF N__law_steps.length b__law_steps
abbrev s__law_pen : Stmt := topS 13
abbrev s_law : Stmt := topS 20
abbrev N__law_pen : List Str := ["_law_script"]
theorem sc__law_pen : FnScope N__law_pen ["_law_script"] (defScope s__law_pen) := ⟨rfl, rfl, rfl, by decide +kernel, rfl, by decide +kernel, by decide +kernel⟩
theorem ok__law_pen {f : Addr} {fd : FuncData} {k : Nat} (T : Bt mg) (F : Fun K "_law_pen" "_law_pen" s__law_pen f fd) : FnOk P w K mg base CX0 (k + 1) f fd ["_law_script"] (spPen K) := by
  refine F.ok sc__law_pen (fun vs H Q E ⟨a, ns, e, _⟩ => by rw [e]; rfl) fun cdv A outer s H vs Q E hr h => ?_
  refine ⟨_, pss_one (ps_ret (pe_lst (pa_cons (pe_callTy call_list_of (by rfl) T.list PyProof.Rows.boot_list (pa_cons (pe_slice sl_list (pv 0) po_none (po_some pe_int)) pa_nil) (by decide) (by decide) rfl rfl) (pa_cons pe_int (pa_cons pe_int pa_nil))))), ?_⟩
  obtain ⟨a, ns, rfl, hn, hl, q⟩ := h
  exact pen_reads rfl hn hl q
abbrev N_law : List Str := ["_law_script", "_law_pen_here", "_law_turn", "_law_ways", "_law_handed", "_law_found"]
theorem sc_law : FnScope N_law ["_law_script"] (defScope s_law) := ⟨rfl, rfl, rfl, by decide +kernel, rfl, by decide +kernel, by decide +kernel⟩
noncomputable def b_law : SF := (sSeq (sFor (lRng1 (eK (.int 3))) (gSet 2) (sSeq (sSet 3 (eCallN 1 F__law_steps (aCons (eVar 1) aNil))) (sSeq (sSet 4 (asD (asL (eVar 3)))) (sSeq (sSet 5 (eCallN 1 F_relations (aCons (eVar 4) aNil))) (sSeq (sIf (bOr (bOf (e2 kNe (eVar 4) (eVar 3))) (bOr (bNot (bOf (e1 (kIsi "tuple") (eVar 5)))) (bOf (e2 kNe (e1 kLen (eVar 5)) (eK (.int 3)))))) (sRet (eK (.bl false))) sNext) (sSeq (sIf (bNot (bOf (eCallN 4 F__law_is_basis (aCons (eVar 3) (aCons (e2 ixD (eVar 5) (eK (.int 0))) (aCons (e2 ixD (eVar 5) (eK (.int 1))) (aCons (e2 ixD (eVar 5) (eK (.int 2))) aNil))))))) (sRet (eK (.bl false))) sNext) (sIf (bOf (e2 kNe (eCallN 1 F_relations (aCons (eVar 4) aNil)) (eVar 5))) (sRet (eK (.bl false))) sNext))))))) (sRet (eK (.bl true))))
def R_law (ns : List Int) : Prop := ∃ C', b_law (rhoLaw N_law.length) [penD ns] = some (.rt (.bl true), C')
theorem ok_law {f : Addr} {fd : FuncData} {k : Nat} (hk : 40 ≤ k) (T : Bt mg) (Se : base.NoSeer) (Tr : P.given.tree = none) {f__law_is_basis : Addr} {fd__law_is_basis : FuncData} {f__law_steps : Addr} {fd__law_steps : FuncData} {f_relations : Addr} {fd_relations : FuncData} {f__law_pen : Addr} {fd__law_pen : FuncData} (F : Fun K "law" "law" s_law f fd) (D__law_is_basis : Fun K "_law_is_basis" "_law_is_basis" s__law_is_basis f__law_is_basis fd__law_is_basis) (B__law_is_basis : Binds K fd__law_is_basis ["_law_ways", "_law_rows", "_law_others", "_law_back"] []) (G__law_is_basis : FnOk P w K mg base CX0 k f__law_is_basis fd__law_is_basis ["_law_ways", "_law_rows", "_law_others", "_law_back"] (spD K 4 F__law_is_basis)) (M__law_is_basis : mg "_law_is_basis" = some (.ref f__law_is_basis)) (D__law_steps : Fun K "_law_steps" "_law_steps" s__law_steps f__law_steps fd__law_steps) (B__law_steps : Binds K fd__law_steps ["_law_pen_here"] []) (G__law_steps : FnOk P w K mg base CX0 k f__law_steps fd__law_steps ["_law_pen_here"] (spD K 1 F__law_steps)) (M__law_steps : mg "_law_steps" = some (.ref f__law_steps)) (D_relations : Fun K "relations" "relations" s_relations f_relations fd_relations) (B_relations : Binds K fd_relations ["steps"] []) (G_relations : FnOk P w K mg base CX0 k f_relations fd_relations ["steps"] (spD K 1 F_relations)) (M_relations : mg "relations" = some (.ref f_relations)) (W_relations : KwAll K fd_relations ["steps"] ["steps"]) (D__law_pen : Fun K "_law_pen" "_law_pen" s__law_pen f__law_pen fd__law_pen) (B__law_pen : Binds K fd__law_pen ["_law_script"] []) (G__law_pen : FnOk P w K mg base CX0 k f__law_pen fd__law_pen ["_law_script"] (spPen K)) (M__law_pen : mg "_law_pen" = some (.ref f__law_pen)) : FnOk P w K mg base CX0 (k + 1) f fd ["_law_script"] (spLaw K R_law) := by
  refine F.ok sc_law (fun vs H Q E ⟨a, ns, e, _⟩ => by rw [e]; rfl) fun cdv A outer s H vs Q E hr h => ?_
  have hu := hr.units
  have dv : Dv (cxOf CX0 P w K mg base N_law "law" (defScope s_law) f cdv A outer s H E).nox := dv_of hk hr Se Tr rfl rfl
  refine ⟨_, pss_cons (ps_set (i := 1) sc_law.nd rfl (.inl rfl) (pe_call G__law_pen hr (by rfl) M__law_pen D__law_pen.kp B__law_pen .nil pass0 (pa_cons (pv 0) pa_nil)))
    (s_cons (s_for PassesOwn.never rfl (i_range1 (by rfl) T.range v_int) (g_name 2 (pg_name (i := 2) sc_law.nd rfl (.inl rfl))) (s_cons (s_set (ps_set (i := 3) sc_law.nd rfl (.inl rfl) (v_call G__law_steps hr (by rfl) M__law_steps D__law_steps.kp B__law_steps (a_cons (v_name 1 (pv 1)) a_nil))) fun _ _ _ z => z)
    (s_cons (s_set (ps_set (i := 4) sc_law.nd rfl (.inl rfl) (f_v (f_list (by rfl) T.list (v_l (v_name 3 (pv 3)))))) fun _ _ _ z => z)
    (s_cons (s_set (ps_set (i := 5) sc_law.nd rfl (.inl rfl) (v_call G_relations hr (by rfl) M_relations D_relations.kp B_relations (a_cons (v_name 4 (pv 4)) a_nil))) fun _ _ _ z => z)
    (s_cons (s_if (c_w (c_or (c_ne hu (v_w (v_name 4 (pv 4))) (v_w (v_name 3 (pv 3)))) (c_or (c_not (c_val (v_isi (T := "tuple") (by rfl) T.isinstance (by rfl) T.tuple (v_w (v_name 5 (pv 5)))))) (c_or1 (c_ne hu (v_w (v_fn1 fn_len (by rfl) T.len bt_len (v_w (v_name 5 (pv 5))))) (v_w v_int)))))) (s_one (s_ret v_bl)) s_nil)
    (s_cons (s_if (c_not (c_val (v_call G__law_is_basis hr (by rfl) M__law_is_basis D__law_is_basis.kp B__law_is_basis (a_cons (v_name 3 (pv 3)) (a_cons (v_ix (v_name 5 (pv 5)) v_int) (a_cons (v_ix (v_name 5 (pv 5)) v_int) (a_cons (v_ix (v_name 5 (pv 5)) v_int) a_nil))))))) (s_one (s_ret v_bl)) s_nil)
    (s_one (s_if (c_ne hu (v_w (v_callKw1 G_relations hr (by rfl) M_relations D_relations.kp W_relations (v_name 4 (pv 4)))) (v_w (v_name 5 (pv 5)))) (s_one (s_ret v_bl)) s_nil))))))))
    (s_one (s_ret v_bl))), ?_⟩
  obtain ⟨a, ns, rfl, hn, hl, ⟨C', hb⟩, q⟩ := h
  exact law_reads (by decide) hn hl rfl hb q
end
end K62


set_option maxRecDepth 100000
set_option maxHeartbeats 1000000 -- ht
namespace K62
open PySem PySem.Spec PyProof.Rows L2 Ht Mth
theorem zip_map2 (f : Int → Int → Int) : ∀ r o : List Int, (r.zip o).map (fun p => D.int (f p.1 p.2)) = (List.zipWith f r o).map .int
  | [], _ => by simp
  | _ :: _, [] => by simp
  | x :: r, y :: o => by
    simp only [List.zip_cons_cons, List.map_cons, List.zipWith_cons_cons]
    rw [zip_map2 f r o]
theorem ev_less_times {C : Mem} {r o : List Int} {t : Int} (hl : r.length ≤ 100000) (ht : Fit t) (ho : ∀ y ∈ o, Fit y) : F_less_times [eI r, .int t, eI o] C = some (eI (lessM r t o), C) := by
  have h := lc_map (vs := [3, 4]) (fi := lZip (eVar 0) (eVar 2)) (k := gTupD 2 (gsCons (gSet 3) (gsCons (gSet 4) gsNil))) (ef := e2 kSub (eVar 3) (e2 kMul (eVar 1) (eVar 4)))
    (ρ := rho0 N_less_times.length [eI r, .int t, eI o]) (C := C) (C0 := C) (r.zip o) (fun p => .tup [.int p.1, .int p.2]) (fun p => .int (p.1 - t * p.2))
    (by
      show some (zipD (r.map .int) (o.map .int), C) = _
      rw [zipD_eq]) rfl (by rw [List.length_zip]; omega) fun p hp => ⟨_, rfl, by
      have hy := ho p.2 (List.of_mem_zip hp).2
      show (match (match kMul (.int t) (.int p.2) with | some d => some (d, C) | none => none) with
        | some (y, C2) => match kSub (.int p.1) y with
          | some d => some (d, C2)
          | none => none
        | none => none) = _
      rw [kMul_fit ht hy]
      rfl⟩
  show (match (match (match lLc [3, 4] (lZip (eVar 0) (eVar 2)) (gTupD 2 (gsCons (gSet 3) (gsCons (gSet 4) gsNil))) bTrue (e2 kSub (eVar 3) (e2 kMul (eVar 1) (eVar 4))) (rho0 N_less_times.length [eI r, .int t, eI o]) C with
    | some (ds, C1) => some (D.lst ds, C1)
    | none => none) with | some (d, C1) => some (Out.rt d, C1) | none => none) with
    | some (.rt d, C1) => some (d, C1)
    | some (.nx _, C1) => some (.non, C1)
    | _ => none) = _
  rw [h]
  show some (D.lst _, C) = some (eI _, C)
  rw [zip_map2 (fun x y => x - t * y)]
  rfl
def unitM (n : Nat) : List (List Int) := (List.range n).map fun i => (List.range n).map fun j => if i = j then 1 else 0
theorem ev_unit {C : Mem} {n : Nat} (hn : n ≤ 100000) : F_unit [.int (n : Int)] C = some (eT (unitM n), C) := by
  have rg : ∀ {ρ : Rho}, ρ[0]? = some (.im (.int (n : Int))) → lRng1 (eVar 0) ρ C = some ((List.range n).map fun (i : Nat) => D.int (i : Int), C) := fun {ρ} h => by
    refine ev_rng1 (n := n) ?_ (by omega)
    unfold eVar
    rw [h]
  have h := lc_map (vs := [1]) (k := gSet 1) (ef := asD (lLc [2] (lRng1 (eVar 0)) (gSet 2) bTrue (e1 kInt (e2 kEq (eVar 1) (eVar 2))))) (ρ := rho0 N_unit.length [.int (n : Int)]) (C := C) (C0 := C) (List.range n) (fun (i : Nat) => D.int (i : Int))
    (fun i => eI ((List.range n).map fun j => if i = j then 1 else 0)) (rg rfl) rfl (by simpa using hn) fun i hi => ⟨_, rfl, by
      have h2 := lc_map (vs := [2]) (k := gSet 2) (ef := e1 kInt (e2 kEq (eVar 1) (eVar 2))) (ρ := (wipeR (rho0 N_unit.length [.int (n : Int)]) [1]).set 1 (.im (.int (i : Int)))) (C := C) (C0 := C) (List.range n) (fun (i : Nat) => D.int (i : Int))
        (fun j => D.int (if i = j then 1 else 0)) (rg rfl) rfl (by simpa using hn) fun j hj => ⟨_, rfl, by
          refine ev_e1 (ev_e2 rfl rfl (kEq_int _ _)) ?_
          by_cases e : i = j
          · subst e; simp [kInt]
          · have : ¬ (i : Int) = (j : Int) := by omega
            simp [kInt, e, this]⟩
      refine ev_asD (h2.trans ?_)
      rw [show (fun (j : Nat) => D.int (if i = j then 1 else 0)) = D.int ∘ (fun (j : Nat) => if i = j then (1 : Int) else 0) from rfl, ← List.map_map]⟩
  refine ev_run (ev_ret (ev_asD (h.trans ?_)))
  unfold unitM
  rw [List.map_map]
  rfl
/-- the first place that is not 0 -/
theorem first_nz {r : List Int} {c : Nat} (hc : c < r.length) (h0 : ∀ k, k < c → r.getD k 0 = 0) (h1 : r.getD c 0 ≠ 0) : ∃ tl, r.zipIdx.filter (fun p => decide (p.1 ≠ 0)) = (r.getD c 0, c) :: tl := by
  have e : r = r.take c ++ r.getD c 0 :: r.drop (c + 1) := by
    have : r.getD c 0 = r[c] := by rw [List.getD_eq_getElem?_getD, List.getElem?_eq_getElem hc]; rfl
    rw [this, List.getElem_cons_drop, List.take_append_drop]
  have f0 : (r.take c).zipIdx.filter (fun p => decide (p.1 ≠ 0)) = [] := by
    refine List.filter_eq_nil_iff.mpr fun p hp => ?_
    obtain ⟨i, hi⟩ := List.mem_iff_getElem?.mp hp
    rw [List.getElem?_zipIdx] at hi
    cases q : (r.take c)[i]? with
    | none => rw [q] at hi; cases hi
    | some x =>
      rw [q] at hi
      cases hi
      have hi := (List.getElem?_eq_some_iff.mp q).1
      rw [List.length_take] at hi
      rw [List.getElem?_take_of_lt (by omega)] at q
      have := h0 i (by omega)
      rw [List.getD_eq_getElem?_getD, q] at this
      simpa using this
  have lt : (r.take c).length = c := by rw [List.length_take]; omega
  generalize hx : r.getD c 0 = x at *
  rw [e, List.zipIdx_append, List.filter_append, f0, lt, List.nil_append, List.zipIdx_cons, List.filter_cons, if_pos (by simpa using h1)]
  simp
theorem ev_lead {C : Mem} {r : List Int} {c : Nat} (hl : r.length ≤ 100000) (hc : c < r.length) (h0 : ∀ k, k < c → r.getD k 0 = 0) (h1 : r.getD c 0 ≠ 0) : F_lead [eI r] C = some (.int (c : Int), C) := by
  obtain ⟨tl, hf⟩ := first_nz hc h0 h1
  have h := lc_eq (vs := [2, 3]) (fi := lEnum (asL (eVar 0))) (k := gTupD 2 (gsCons (gSet 2) (gsCons (gSet 3) gsNil))) (tf := bOf (e2 kNe (eVar 3) (eK (.int 0)))) (ef := eVar 2) (ρ := rho0 N_lead.length [eI r]) (C := C) (C0 := C)
    r.zipIdx (fun p => .tup [.int (p.2 : Int), .int p.1]) (fun p => decide (p.1 ≠ 0)) (fun p => .int (p.2 : Int)) (by
      show some (enumD 0 (r.map .int), C) = _
      rw [enumD_eq]) rfl (by rw [List.length_zipIdx]; exact hl) fun p hp => ⟨_, rfl, ev_bOf (ev_e2 rfl rfl (kNe_int _ _)), fun _ => rfl⟩
  rw [hf] at h
  refine ev_run ((ev_seq (ev_set (ev_asD h))).trans (ev_ret ?_))
  refine ev_if1 (ev_bOf (ev_e2 rfl (ev_asD rfl) ?_)) (ev_e2 rfl rfl (ix_lst (i := 0) rfl))
  rw [kNe_nil _ (okDs_map (fun p => by simp [okD]) _)]
  simp
theorem map_neg (l : List Int) : l.map (fun x => D.int (-x)) = (l.map (- ·)).map .int := by rw [List.map_map]; rfl
theorem ev_positive {C : Mem} {l : Ln} {j : Nat} (hj : j < l.1.length) (h1 : l.1.length ≤ 100000) (h2 : l.2.length ≤ 100000) : F_positive [eP l, .int (j : Int)] C = some (eP (if 0 < col j l then l else negL l), C) := by
  have ix : ixD (eI l.1) (.int (j : Int)) = some (.int (col j l)) := ix_eI hj
  have ng : ∀ (i : Nat) (r : List Int) (ρ : Rho), ρ[i]? = some (.im (eI r)) → noOw ρ [4] = true → r.length ≤ 100000 → 4 < ρ.length → lLc [4] (asL (eVar i)) (gSet 4) bTrue (e1 kNeg (eVar 4)) ρ C = some ((r.map (- ·)).map .int, C) := fun i r ρ w1 w2 w3 w4 => by
    rw [← map_neg]
    refine lc_map (vs := [4]) (k := gSet 4) (ef := e1 kNeg (eVar 4)) r D.int (fun x => .int (-x)) ?_ w2 w3 fun x hx => ⟨(wipeR ρ [4]).set 4 (.im (.int x)), ?_, ?_⟩
    · refine ev_asL ?_
      unfold eVar
      rw [w1]
      rfl
    · unfold gSet
      rw [if_pos (by rw [wipeR_length]; exact w4)]
    · refine ev_e1 (x := .int x) ?_ rfl
      unfold eVar
      rw [List.getElem?_set_self (by rw [wipeR_length]; exact w4)]
  refine ev_run ((ev_seq (ev_asg rfl rfl)).trans ?_)
  by_cases hp : 0 < col j l
  · rw [if_pos hp]
    refine ev_seqR ((ev_ifT (ev_bOf (ev_e2 (ev_e2 rfl rfl ix) rfl ?_))).trans (ev_ret rfl))
    show some (D.bl (decide (0 < col j l))) = _
    rw [decide_eq_true hp]
  · rw [if_neg hp]
    refine (ev_seq ((ev_ifF (ev_bOf (ev_e2 (ev_e2 rfl rfl ix) rfl ?_))).trans rfl)).trans (ev_ret (ev_tup (ev_cons (ev_asD (ng 2 l.1 _ rfl rfl h1 (Nat.le_of_ble_eq_true rfl))) (ev_cons (ev_asD (ng 3 l.2 _ rfl rfl h2 (Nat.le_of_ble_eq_true rfl))) rfl))))
    show some (D.bl (decide (0 < col j l))) = _
    rw [decide_eq_false hp]
/-- a line less times another -/
theorem ev_sub {C : Mem} {ρ : Rho} {a b : Ln} {t : Int} {ia ib it ja jb : EF} (h1 : b.1.length ≤ 100000) (h2 : b.2.length ≤ 100000) (ht : Fit t) (ha : ∀ y ∈ a.1, Fit y) (hb : ∀ y ∈ a.2, Fit y)
    (e1 : ib ρ C = some (eI b.1, C)) (e2 : jb ρ C = some (eI b.2, C)) (e3 : it ρ C = some (.int t, C)) (e4 : ia ρ C = some (eI a.1, C)) (e5 : ja ρ C = some (eI a.2, C)) :
    eTup (aCons (eCallN 3 F_less_times (aCons ib (aCons it (aCons ia aNil)))) (aCons (eCallN 3 F_less_times (aCons jb (aCons it (aCons ja aNil)))) aNil)) ρ C = some (eP (subL b t a), C) :=
  ev_tup (ev_cons (ev_call (ev_cons e1 (ev_cons e3 (ev_cons e4 rfl))) (ev_less_times h1 ht ha)) (ev_cons (ev_call (ev_cons e2 (ev_cons e3 (ev_cons e5 rfl))) (ev_less_times h2 ht hb)) rfl))
def lowL (c : Nat) (line e : Ln) : Ln := subL e ((col c e).fdiv (col c line)) line
theorem ev_lowered {C : Mem} {d n c : Nat} {found : List Ln} {line : Ln} (hd : d ≤ 100000) (hn : n ≤ 100000) (hfl : found.length ≤ 100000) (hc : c < d) (dl : Dim d n line) (df : ∀ e ∈ found, Dim d n e) (h0 : ∀ k, k < c → line.1.getD k 0 = 0) (h1 : col c line ≠ 0)
    (hf : ∀ e ∈ found, Fit ((col c e).fdiv (col c line))) (ha : ∀ y ∈ line.1, Fit y) (hb : ∀ y ∈ line.2, Fit y) : F_lowered [eLs found, eP line] C = some (eLs (found.map (lowL c line)), C) := by
  refine ev_run ((ev_seq (ev_asg rfl rfl)).trans ((ev_seq (ev_set (ev_call (ev_cons rfl rfl) (ev_lead (by rw [dl.1]; exact hd) (by rw [dl.1]; exact hc) h0 h1)))).trans ((ev_seq (ev_own (ev_lst rfl))).trans ?_)))
  obtain ⟨ρ', C', e, hC, s6, s7, s8, hρ⟩ := forGo_invN (k := gTupD 2 (gsCons (gSet 6) (gsCons (gSet 7) gsNil)))
    (b := sSeq (sSet 8 (e2 kDiv (e2 ixD (eVar 6) (eVar 4)) (e2 ixD (eVar 2) (eVar 4)))) (sApp 5 (eTup (aCons (eCallN 3 F_less_times (aCons (eVar 6) (aCons (eVar 8) (aCons (eVar 2) aNil)))) (aCons (eCallN 3 F_less_times (aCons (eVar 7) (aCons (eVar 8) (aCons (eVar 3) aNil)))) aNil)))))
    eP (fun done ρ C2 => C2 = C ∧ ∃ s6 s7 s8 : Sl, ρ = [.im (eLs found), .im (eP line), .im (eI line.1), .im (eI line.2), .im (.int (c : Int)), .ow ((done.map (lowL c line)).map eP), s6, s7, s8]) found.length
    found [] [.im (eLs found), .im (eP line), .im (eI line.1), .im (eI line.2), .im (.int (c : Int)), .ow [], .no, .no, .no] C (by simp) ⟨rfl, _, _, _, rfl⟩ fun done x ρ C2 hx hN ⟨hC, s6, s7, s8, hρ⟩ => by
      subst hC hρ
      have dx := df x hx
      refine ⟨_, _, _, rfl, (ev_seq (ev_set (ev_e2 (ev_e2 rfl rfl (ix_eI (l := x.1) (i := c) (by rw [dx.1]; exact hc))) (ev_e2 rfl rfl (ix_eI (l := line.1) (i := c) (by rw [dl.1]; exact hc))) (kDiv_ne h1)))).trans
        (ev_app (ev_sub (b := x) (a := line) (t := (col c x).fdiv (col c line)) (by rw [dx.1]; exact hd) (by rw [dx.2]; exact hn) (hf x hx) ha hb rfl rfl rfl rfl rfl) rfl (by simp; omega)), rfl, .im (eI x.1), .im (eI x.2), .im (.int ((col c x).fdiv (col c line))), ?_⟩
      rw [List.map_append, List.map_append]
      rfl
  rw [hC, hρ] at e
  exact (ev_seq ((ev_for (ev_asL rfl)).trans e)).trans ((ev_fz rfl).trans (ev_ret rfl))
/-! ### one column gathered -/
theorem min_at {C : Mem} {ρ : Rho} {j : Nat} {left : List Ln} (hj : ∀ l ∈ left, j < l.1.length) (h1 : left ≠ []) (hl : left.length ≤ 100000) (w3 : ρ[3]? = some (.im (eLs left))) (w1 : ρ[1]? = some (.im (.int (j : Int)))) (hr : ρ.length = 13) (hno : noOw ρ [12, 11] = true) :
    ∃ p : Nat, p < left.length ∧ (∀ q, left[p]? = some q → ∀ l ∈ left, (col j q).natAbs ≤ (col j l).natAbs) ∧
      e2 ixD (eMin2 (lLc [12, 11] (lEnum (asL (eVar 3))) (gTupD 2 (gsCons (gSet 12) (gsCons (gSet 11) gsNil))) bTrue (eTup (aCons (e1 kAbs (e2 ixD (e2 ixD (eVar 11) (eK (.int 0))) (eVar 1))) (aCons (eVar 12) aNil))))) (eK (.int 1)) ρ C = some (.int (p : Int), C) := by
  have hlc := lc_map (vs := [12, 11]) (fi := lEnum (asL (eVar 3))) (k := gTupD 2 (gsCons (gSet 12) (gsCons (gSet 11) gsNil))) (ef := eTup (aCons (e1 kAbs (e2 ixD (e2 ixD (eVar 11) (eK (.int 0))) (eVar 1))) (aCons (eVar 12) aNil))) (ρ := ρ) (C := C) (C0 := C)
    left.zipIdx (fun p => .tup [.int (p.2 : Int), eP p.1]) (fun p => tupI [((col j p.1).natAbs : Int), (p.2 : Int)]) (by
      have e : eVar 3 ρ C = some (eLs left, C) := by unfold eVar; rw [w3]
      unfold lEnum
      rw [ev_asL (ds := left.map eP) e, ← enumD_eq]) hno (by rw [List.length_zipIdx]; exact hl) fun p hp => by
      obtain ⟨i, hi⟩ := List.mem_iff_getElem?.mp hp
      rw [List.getElem?_zipIdx] at hi
      cases q : left[i]? with
      | none => rw [q] at hi; cases hi
      | some l =>
        rw [q] at hi
        cases hi
        have hlm := List.mem_of_getElem? q
        have hw : (wipeR ρ [12, 11]).length = 13 := by rw [wipeR_length, hr]
        refine ⟨((wipeR ρ [12, 11]).set 12 (.im (.int ((0 + i : Nat) : Int)))).set 11 (.im (eP l)), ?_, ?_⟩
        · show gsCons (gSet 12) (gsCons (gSet 11) gsNil) [.int ((0 + i : Nat) : Int), eP l] (wipeR ρ [12, 11]) = _
          unfold gsCons gSet
          dsimp only
          rw [if_pos (by rw [hw]; decide)]
          dsimp only
          rw [if_pos (by rw [List.length_set, hw]; decide)]
          rfl
        · have g11 : (((wipeR ρ [12, 11]).set 12 (.im (.int ((0 + i : Nat) : Int)))).set 11 (.im (eP l)))[11]? = some (.im (eP l)) := List.getElem?_set_self (by rw [List.length_set, hw]; decide)
          have g12 : (((wipeR ρ [12, 11]).set 12 (.im (.int ((0 + i : Nat) : Int)))).set 11 (.im (eP l)))[12]? = some (.im (.int ((0 + i : Nat) : Int))) := by
            rw [List.getElem?_set_ne (by decide), List.getElem?_set_self (by rw [hw]; decide)]
          have g1 : (((wipeR ρ [12, 11]).set 12 (.im (.int ((0 + i : Nat) : Int)))).set 11 (.im (eP l)))[1]? = some (.im (.int (j : Int))) := by
            rw [List.getElem?_set_ne (by decide), List.getElem?_set_ne (by decide), wipeR_at, if_neg (by simp)]
            exact w1
          have v11 : eVar 11 (((wipeR ρ [12, 11]).set 12 (.im (.int ((0 + i : Nat) : Int)))).set 11 (.im (eP l))) C = some (eP l, C) := by unfold eVar; rw [g11]
          have v12 : eVar 12 (((wipeR ρ [12, 11]).set 12 (.im (.int ((0 + i : Nat) : Int)))).set 11 (.im (eP l))) C = some (.int ((0 + i : Nat) : Int), C) := by unfold eVar; rw [g12]
          have v1 : eVar 1 (((wipeR ρ [12, 11]).set 12 (.im (.int ((0 + i : Nat) : Int)))).set 11 (.im (eP l))) C = some (.int (j : Int), C) := by unfold eVar; rw [g1]
          refine ev_tup (ev_cons (ev_e1 (ev_e2 (ev_e2 v11 rfl (ix_tup (i := 0) rfl)) v1 (ix_eI (hj l hlm))) ?_) (ev_cons v12 rfl))
          show some (D.int (if l.1.getD j 0 < 0 then -l.1.getD j 0 else l.1.getD j 0)) = some (D.int ((l.1.getD j 0).natAbs : Int))
          congr 2
          split <;> omega
  have hz : left.zipIdx.map (fun p => tupI [((col j p.1).natAbs : Int), (p.2 : Int)]) = (left.zipIdx.map fun p => [((col j p.1).natAbs : Int), (p.2 : Int)]).map tupI := by rw [List.map_map]; rfl
  generalize hks : (left.zipIdx.map fun p => [((col j p.1).natAbs : Int), (p.2 : Int)]) = ks at hz
  cases ks with
  | nil =>
    have := congrArg List.length hks
    rw [List.length_map, List.length_zipIdx] at this
    exact absurd (List.length_eq_zero_iff.mp this) h1
  | cons k ks =>
    obtain ⟨m1, m2⟩ := minI_spec ks k
    rw [← hks] at m1 m2
    obtain ⟨p, hp, ep⟩ := List.mem_map.mp m1
    obtain ⟨i, hi⟩ := List.mem_iff_getElem?.mp hp
    rw [List.getElem?_zipIdx] at hi
    cases q : left[i]? with
    | none => rw [q] at hi; cases hi
    | some l =>
      rw [q] at hi
      cases hi
      have ep : [((col j l).natAbs : Int), ((0 + i : Nat) : Int)] = minI k ks := ep
      refine ⟨i, (List.getElem?_eq_some_iff.mp q).1, fun l' hl' x hx => ?_, ?_⟩
      · rw [q] at hl'
        cases hl'
        obtain ⟨n, hn⟩ := List.mem_iff_getElem?.mp hx
        have := m2 [((col j x).natAbs : Int), (n : Int)] (List.mem_map.mpr ⟨(x, n), List.mem_iff_getElem?.mpr ⟨n, by rw [List.getElem?_zipIdx, hn]; simp⟩, rfl⟩)
        rw [← ep] at this
        unfold ltI at this
        have h := (Bool.or_eq_false_iff.mp this).1
        have h := of_decide_eq_false h
        omega
      · refine ev_e2 (x := tupI (minI k ks)) (C1 := C) ?_ rfl ?_
        · unfold eMin2
          rw [hlc, hz]
          dsimp only
          rw [mapM_tups]
        · rw [← ep, Nat.zero_add]
          rfl
/-- the turn over the other rows -/
noncomputable abbrev gF : SF := (sSeq (sSet 9 (e2 kDiv (e2 ixD (e2 ixD (eVar 8) (eK (.int 0))) (eVar 1)) (e2 ixD (eVar 5) (eVar 1)))) (sSeq (sSet 10 (eTup (aCons (eCallN 3 F_less_times (aCons (e2 ixD (eVar 8) (eK (.int 0))) (aCons (eVar 9) (aCons (eVar 5) aNil)))) (aCons (eCallN 3 F_less_times (aCons (e2 ixD (eVar 8) (eK (.int 1))) (aCons (eVar 9) (aCons (eVar 6) aNil)))) aNil)))) (sIf (bOf (e2 kEq (e2 ixD (e2 ixD (eVar 10) (eK (.int 0))) (eVar 1)) (eK (.int 0)))) (sApp 2 (eVar 10)) (sApp 7 (eVar 10)))))
noncomputable abbrev gB : SF := (sSeq (sSet 4 (e2 ixD (eMin2 (lLc [12, 11] (lEnum (asL (eVar 3))) (gTupD 2 (gsCons (gSet 12) (gsCons (gSet 11) gsNil))) bTrue (eTup (aCons (e1 kAbs (e2 ixD (e2 ixD (eVar 11) (eK (.int 0))) (eVar 1))) (aCons (eVar 12) aNil))))) (eK (.int 1)))) (sSeq (sAsg (gTupD 2 (gsCons (gSet 5) (gsCons (gSet 6) gsNil))) (e2 ixD (eVar 3) (eVar 4))) (sSeq (sOwn 7 (lLst (aCons (e2 ixD (eVar 3) (eVar 4)) aNil))) (sSeq (sFor (asL (asD (lCat (lCut (asL (eVar 3)) oNone (oSome (eVar 4))) (lCut (asL (eVar 3)) (oSome (e2 kAdd (eVar 4) (eK (.int 1)))) oNone)))) (gSet 8) (sSeq (sSet 9 (e2 kDiv (e2 ixD (e2 ixD (eVar 8) (eK (.int 0))) (eVar 1)) (e2 ixD (eVar 5) (eVar 1)))) (sSeq (sSet 10 (eTup (aCons (eCallN 3 F_less_times (aCons (e2 ixD (eVar 8) (eK (.int 0))) (aCons (eVar 9) (aCons (eVar 5) aNil)))) (aCons (eCallN 3 F_less_times (aCons (e2 ixD (eVar 8) (eK (.int 1))) (aCons (eVar 9) (aCons (eVar 6) aNil)))) aNil)))) (sIf (bOf (e2 kEq (e2 ixD (e2 ixD (eVar 10) (eK (.int 0))) (eVar 1)) (eK (.int 0)))) (sApp 2 (eVar 10)) (sApp 7 (eVar 10)))))) (sFz 7 (sSet 3 (eVar 7)))))))
abbrev gCo : BF := (bOf (e2 (kCmp fun i j => decide (j < i)) (e1 kLen (eVar 3)) (eK (.int 1))))
theorem ev_turn {C : Mem} {M : Int} {d n j : Nat} {lines left : List Ln} {others rest : List Ln} {q : Ln} {s4 s8 s9 s10 : Sl} (hd : d ≤ 100000) (hn : n ≤ 100000) (hj : j < d) (dq : Dim d n q) (h0 : col j q ≠ 0) (dr : ∀ l ∈ rest, Dim d n l)
    (hf : ∀ l ∈ rest, Fit ((col j l).fdiv (col j q))) (ha : ∀ y ∈ q.1, Fit y) (hb : ∀ y ∈ q.2, Fit y) (hT : others.length + rest.length + 1 ≤ 100000) :
    ∃ s8' s9' s10' : Sl, forGo (gSet 8) gF (rest.map eP) [.im (eLs lines), .im (.int (j : Int)), .ow (others.map eP), .im (eLs left), s4, .im (eI q.1), .im (eI q.2), .ow [eP q], s8, s9, s10, .no, .no] C =
      some (.nx [.im (eLs lines), .im (.int (j : Int)), .ow ((others ++ (rest.map (redL j q)).filter (zr j)).map eP), .im (eLs left), s4, .im (eI q.1), .im (eI q.2), .ow ((q :: (rest.map (redL j q)).filter (nz j)).map eP), s8', s9', s10', .no, .no], C) := by
  obtain ⟨ρ', C', e, hC, s8', s9', s10', hρ⟩ := forGo_invN (k := gSet 8) (b := gF) eP
    (fun done ρ C2 => C2 = C ∧ ∃ s8 s9 s10 : Sl, ρ = [.im (eLs lines), .im (.int (j : Int)), .ow ((others ++ (done.map (redL j q)).filter (zr j)).map eP), .im (eLs left), s4, .im (eI q.1), .im (eI q.2), .ow ((q :: (done.map (redL j q)).filter (nz j)).map eP), s8, s9, s10, .no, .no]) rest.length
    rest [] [.im (eLs lines), .im (.int (j : Int)), .ow (others.map eP), .im (eLs left), s4, .im (eI q.1), .im (eI q.2), .ow [eP q], s8, s9, s10, .no, .no] C (by simp) ⟨rfl, s8, s9, s10, by simp⟩ fun done x ρ C2 hx hN ⟨hC, s8, s9, s10, hρ⟩ => by
      subst hC hρ
      have dx := dr x hx
      have dz : Dim d n (redL j q x) := dim_sub (t := (col j x).fdiv (col j q)) dq dx
      have fl : ∀ f : Ln → Bool, ((done.map (redL j q)).filter f).length ≤ done.length := fun f => Nat.le_trans (List.length_filter_le _ _) (by simp)
      have go : ∀ (ρ3 : Rho) (r : Option (Out × Mem)), (sIf (bOf (e2 kEq (e2 ixD (e2 ixD (eVar 10) (eK (.int 0))) (eVar 1)) (eK (.int 0)))) (sApp 2 (eVar 10)) (sApp 7 (eVar 10))) [.im (eLs lines), .im (.int (j : Int)), .ow ((others ++ (done.map (redL j q)).filter (zr j)).map eP), .im (eLs left), s4, .im (eI q.1), .im (eI q.2), .ow ((q :: (done.map (redL j q)).filter (nz j)).map eP), .im (eP x), .im (.int ((col j x).fdiv (col j q))), .im (eP (redL j q x)), .no, .no] C2 = r →
          gF [.im (eLs lines), .im (.int (j : Int)), .ow ((others ++ (done.map (redL j q)).filter (zr j)).map eP), .im (eLs left), s4, .im (eI q.1), .im (eI q.2), .ow ((q :: (done.map (redL j q)).filter (nz j)).map eP), .im (eP x), s9, s10, .no, .no] C2 = r := fun _ r h =>
        (ev_seq (ev_set (ev_e2 (ev_e2 (ev_e2 rfl rfl (ix_tup (i := 0) rfl)) rfl (ix_eI (l := x.1) (i := j) (by rw [dx.1]; exact hj))) (ev_e2 rfl rfl (ix_eI (l := q.1) (i := j) (by rw [dq.1]; exact hj))) (kDiv_ne h0)))).trans
          ((ev_seq (ev_set (ev_sub (b := x) (a := q) (t := (col j x).fdiv (col j q)) (by rw [dx.1]; exact hd) (by rw [dx.2]; exact hn) (hf x hx) ha hb (ev_e2 rfl rfl (ix_tup (i := 0) rfl)) (ev_e2 rfl rfl (ix_tup (i := 1) rfl)) rfl rfl rfl))).trans h)
      have test : (bOf (e2 kEq (e2 ixD (e2 ixD (eVar 10) (eK (.int 0))) (eVar 1)) (eK (.int 0)))) [.im (eLs lines), .im (.int (j : Int)), .ow ((others ++ (done.map (redL j q)).filter (zr j)).map eP), .im (eLs left), s4, .im (eI q.1), .im (eI q.2), .ow ((q :: (done.map (redL j q)).filter (nz j)).map eP), .im (eP x), .im (.int ((col j x).fdiv (col j q))), .im (eP (redL j q x)), .no, .no] C2 = some (decide (col j (redL j q x) = 0), C2) :=
        ev_bOf (ev_e2 (ev_e2 (ev_e2 rfl rfl (ix_tup (i := 0) rfl)) rfl (ix_eI (l := (redL j q x).1) (i := j) (by rw [dz.1]; exact hj))) rfl (kEq_int _ _))
      by_cases hz : col j (redL j q x) = 0
      · rw [decide_eq_true hz] at test
        refine ⟨_, _, _, rfl, go [] _ ((ev_ifT test).trans (ev_app rfl rfl ?_)), rfl, .im (eP x), .im (.int ((col j x).fdiv (col j q))), .im (eP (redL j q x)), ?_⟩
        · have := fl (zr j)
          simp only [List.length_map, List.length_append]
          omega
        · have z1 : zr j (redL j q x) = true := decide_eq_true hz
          have z2 : nz j (redL j q x) = false := by unfold nz; simp [hz]
          simp [List.filter_append, z1, z2]
      · rw [decide_eq_false hz] at test
        refine ⟨_, _, _, rfl, go [] _ ((ev_ifF test).trans (ev_app rfl rfl ?_)), rfl, .im (eP x), .im (.int ((col j x).fdiv (col j q))), .im (eP (redL j q x)), ?_⟩
        · have := fl (nz j)
          simp only [List.length_map, List.length_cons]
          omega
        · have z1 : zr j (redL j q x) = false := decide_eq_false hz
          have z2 : nz j (redL j q x) = true := by unfold nz; simp [hz]
          simp [List.filter_append, z1, z2]
  rw [hC, hρ] at e
  exact ⟨s8', s9', s10', e⟩
/-- a round of the while -/
theorem ev_round {C : Mem} {M : Int} {d n j : Nat} {lines left others : List Ln} {s4 s5 s6 s7 s8 s9 s10 : Sl} (hM : 1 ≤ M) (hFit : ∀ x, Sm (6 * (M * M)) x → Fit x) (hd : d ≤ 100000) (hn : n ≤ 100000) (hj : j < d) (h : Loop M d n j left others) (h2 : 1 < left.length) (hT : others.length + left.length ≤ 100000)
    (no7 : noOw [s4, s5, s6, s7, s8, s9, s10] [3] = true) :
    ∃ (q : Ln) (rest : List Ln) (s4' s5' s6' s7' s8' s9' s10' : Sl), left.Perm (q :: rest) ∧ (∀ l ∈ rest, (col j q).natAbs ≤ (col j l).natAbs) ∧ noOw [s4', s5', s6', s7', s8', s9', s10'] [3] = true ∧
      gB [.im (eLs lines), .im (.int (j : Int)), .ow (others.map eP), .im (eLs left), s4, s5, s6, s7, s8, s9, s10, .no, .no] C =
        some (.nx [.im (eLs lines), .im (.int (j : Int)), .ow ((others ++ (rest.map (redL j q)).filter (zr j)).map eP), .im (eLs (q :: (rest.map (redL j q)).filter (nz j))), s4', s5', s6', s7', s8', s9', s10', .no, .no], C) := by
  obtain ⟨p, hp, hmin, hev⟩ := min_at (C := C) (ρ := [.im (eLs lines), .im (.int (j : Int)), .ow (others.map eP), .im (eLs left), s4, s5, s6, s7, s8, s9, s10, .no, .no]) (j := j) (left := left) (fun l hl => by rw [(h.dl l hl).1.1]; exact hj) (by intro z; rw [z] at h2; simp at h2) (by omega) rfl rfl rfl rfl
  have hq : left[p]? = some left[p] := List.getElem?_eq_getElem hp
  generalize hqe : left[p] = q at hq
  have ed : left.drop p = q :: left.drop (p + 1) := by rw [← hqe]; exact (List.getElem_cons_drop hp).symm
  have e0 : left = left.take p ++ q :: left.drop (p + 1) := by rw [← ed, List.take_append_drop]
  have pm : left.Perm (q :: (left.take p ++ left.drop (p + 1))) := by
    have := List.perm_middle (a := q) (l₁ := left.take p) (l₂ := left.drop (p + 1))
    rwa [← e0] at this
  have lr : (left.take p ++ left.drop (p + 1)).length + 1 = left.length := by
    have := pm.length_eq
    simpa using this.symm
  have hl := h.round hM pm
  have dq := h.dl q (pm.mem_iff.mpr List.mem_cons_self)
  have dr : ∀ l ∈ left.take p ++ left.drop (p + 1), l ∈ left := fun l hm => pm.mem_iff.mpr (List.mem_cons_of_mem _ hm)
  have bdl : ∀ l ∈ left, Bd (6 * (M * M)) l := fun l hm => by
    rcases h.bd with hb | ⟨_, hb⟩
    · exact (hb l hm).mono (m_le hM)
    · exact hb l hm
  have inRow : ∀ (r : List Int), ∀ y ∈ r, ∃ k, r.getD k 0 = y := fun r y hy => by
    obtain ⟨k, hk⟩ := List.mem_iff_getElem?.mp hy
    exact ⟨k, by rw [List.getD_eq_getElem?_getD, hk]; rfl⟩
  have bq := bdl q (pm.mem_iff.mpr List.mem_cons_self)
  have ha : ∀ y ∈ q.1, Fit y := fun y hy => by
    obtain ⟨k, e⟩ := inRow _ y hy
    rw [← e]; exact hFit _ (bq (true, k))
  have hb : ∀ y ∈ q.2, Fit y := fun y hy => by
    obtain ⟨k, e⟩ := inRow _ y hy
    rw [← e]; exact hFit _ (bq (false, k))
  have MM : 0 ≤ M * M := Int.mul_nonneg (by omega) (by omega)
  have ix : ixD (eLs left) (.int (p : Int)) = some (eP q) := ix_lst (by rw [List.getElem?_map, hq]; rfl)
  obtain ⟨s8', s9', s10', ht⟩ := ev_turn (C := C) (M := M) (lines := lines) (left := left) (others := others) (rest := left.take p ++ left.drop (p + 1)) (q := q) (s4 := .im (.int (p : Int))) (s8 := s8) (s9 := s9) (s10 := s10) hd hn hj dq.1 dq.2 (fun l hm => (h.dl l (dr l hm)).1)
    (fun l hm => hFit _ (fd_small (bdl l (dr l hm) (true, j)) dq.2 (by omega))) ha hb (by omega)
  refine ⟨q, left.take p ++ left.drop (p + 1), .im (.int (p : Int)), .im (eI q.1), .im (eI q.2), .im (eLs (q :: ((left.take p ++ left.drop (p + 1)).map (redL j q)).filter (nz j))), s8', s9', s10', pm, fun l hm => hmin q hq l (dr l hm), rfl, ?_⟩
  refine (ev_seq (ev_set hev)).trans ((ev_seq (ev_asg (ev_e2 rfl rfl ix) rfl)).trans ((ev_seq (ev_own (ev_lst (ev_cons (ev_e2 rfl rfl ix) rfl)))).trans ?_))
  refine (ev_seq ((ev_for (ds := (left.take p ++ left.drop (p + 1)).map eP) (ev_asL (ev_asD (ev_cat (C1 := C) (ds := (left.map eP).take p) (es := (left.map eP).drop (p + 1)) (ev_take (p := p) (ev_asL rfl) rfl) (ev_drop (p := p + 1) (ev_asL rfl) rfl) ?_ |>.trans ?_)))).trans ht)).trans ((ev_fz rfl).trans (ev_set rfl))
  · simp only [List.length_take, List.length_drop, List.length_map]
    omega
  · rw [List.map_append, List.map_take, List.map_drop]
/-- what gathering one column gives -/
structure Gath (M : Int) (d n j : Nat) (lines left others : List Ln) : Prop where
  few : left.length ≤ 1
  loop : Loop M d n j left others
  el : ∀ (Q : List Ln → Prop), El Q → ∀ tl, Q (lines ++ tl) → Q (left ++ others ++ tl)
  len : others.length + left.length = lines.length
theorem ev_while {C : Mem} {M : Int} {d n j : Nat} {lines : List Ln} (hM : 1 ≤ M) (hFit : ∀ x, Sm (6 * (M * M)) x → Fit x) (hd : d ≤ 100000) (hn : n ≤ 100000) (hj : j < d) : ∀ (m : Nat) (left others : List Ln) (s4 s5 s6 s7 s8 s9 s10 : Sl), mu j left ≤ m → Loop M d n j left others → others.length + left.length ≤ 100000 → noOw [s4, s5, s6, s7, s8, s9, s10] [3] = true →
    ∃ (left' others' : List Ln) (s4' s5' s6' s7' s8' s9' s10' : Sl), sWhile gCo gB [.im (eLs lines), .im (.int (j : Int)), .ow (others.map eP), .im (eLs left), s4, s5, s6, s7, s8, s9, s10, .no, .no] C =
        some (.nx [.im (eLs lines), .im (.int (j : Int)), .ow (others'.map eP), .im (eLs left'), s4', s5', s6', s7', s8', s9', s10', .no, .no], C) ∧ left'.length ≤ 1 ∧ Loop M d n j left' others' ∧ (∀ (Q : List Ln → Prop), El Q → ∀ tl, Q (left ++ others ++ tl) → Q (left' ++ others' ++ tl)) ∧ others'.length + left'.length = others.length + left.length := by
  intro m
  induction m with
  | zero =>
    intro left others s4 s5 s6 s7 s8 s9 s10 hm h hT no7
    have e : left = [] := by
      cases left with
      | nil => rfl
      | cons l ls =>
        have hz := (h.dl l List.mem_cons_self).2
        have : (col j l).natAbs + mu j ls ≤ 0 := hm
        omega
    subst e
    exact ⟨[], others, s4, s5, s6, s7, s8, s9, s10, sWhile_false (ev_bOf (ev_e2 (ev_e1 rfl rfl) rfl rfl)), by simp, h, fun Q _ tl hq => hq, rfl⟩
  | succ m ih =>
    intro left others s4 s5 s6 s7 s8 s9 s10 hm h hT no7
    have test : gCo [.im (eLs lines), .im (.int (j : Int)), .ow (others.map eP), .im (eLs left), s4, s5, s6, s7, s8, s9, s10, .no, .no] C = some (decide (1 < left.length), C) := by
      refine ev_bOf (ev_e2 (x := .int ((left.map eP).length : Int)) (ev_e1 rfl rfl) rfl ?_)
      rw [List.length_map]
      show some (D.bl (decide ((1 : Int) < (left.length : Int)))) = _
      congr 2
      exact decide_eq_decide.mpr ⟨fun _ => by omega, fun _ => by omega⟩
    by_cases h2 : 1 < left.length
    · rw [decide_eq_true h2] at test
      obtain ⟨q, rest, s4', s5', s6', s7', s8', s9', s10', pm, hmin, no', ev⟩ := ev_round (C := C) (lines := lines) hM hFit hd hn hj h h2 hT no7
      have dq := h.dl q (pm.mem_iff.mpr List.mem_cons_self)
      have dr : ∀ l ∈ rest, Dim d n l ∧ (col j q).natAbs ≤ (col j l).natAbs := fun l hl => ⟨(h.dl l (pm.mem_iff.mpr (List.mem_cons_of_mem _ hl))).1, hmin l hl⟩
      have hl2 := pm.length_eq
      simp only [List.length_cons] at hl2
      have mu1 : mu j left = (col j q).natAbs + mu j rest := mu_perm pm
      have mu2 := mu_red dq.1 dq.2 rest dr
      have mu3 := mu_filter j (nz j) (rest.map (redL j q))
      have lc := (filter_split j (rest.map (redL j q))).length_eq
      rw [List.length_append, List.length_map] at lc
      obtain ⟨left', others', t4, t5, t6, t7, t8, t9, t10, w1, w2, w3, w4, w5⟩ := ih (q :: (rest.map (redL j q)).filter (nz j)) (others ++ (rest.map (redL j q)).filter (zr j)) s4' s5' s6' s7' s8' s9' s10'
        (by show (col j q).natAbs + mu j _ ≤ m; omega) (h.round hM pm) (by simp only [List.length_append, List.length_cons]; omega) no'
      refine ⟨left', others', t4, t5, t6, t7, t8, t9, t10, sWhile_next test ev w1, w2, w3, fun Q E tl hq => w4 Q E tl (E.round pm hq), ?_⟩
      rw [w5]
      simp only [List.length_append, List.length_cons]
      omega
    · rw [decide_eq_false h2] at test
      exact ⟨left, others, s4, s5, s6, s7, s8, s9, s10, sWhile_false test, by omega, h, fun Q _ tl hq => hq, rfl⟩
def optD : List Ln → D
  | [] => .non
  | l :: _ => eP l
theorem ev_gathered {C : Mem} {M : Int} {d n j : Nat} {lines : List Ln} (hM : 1 ≤ M) (hFit : ∀ x, Sm (6 * (M * M)) x → Fit x) (hd : d ≤ 100000) (hn : n ≤ 100000) (hj : j < d) (dl : ∀ l ∈ lines, Dim d n l) (bl : ∀ l ∈ lines, Bd M l) (hT : lines.length ≤ 100000) :
    ∃ left others, Gath M d n j lines left others ∧ F_gathered [eLs lines, .int (j : Int)] C = some (.tup [optD left, eLs others], C) := by
  have filt : ∀ (ρ : Rho) (op : D → D → Option D) (p : Ln → Bool), ρ[0]? = some (.im (eLs lines)) → ρ[1]? = some (.im (.int (j : Int))) → ρ.length = 13 → noOw ρ [11] = true → (∀ l : Ln, op (.int (col j l)) (.int 0) = some (.bl (p l))) →
      lLc [11] (asL (eVar 0)) (gSet 11) (bOf (e2 op (e2 ixD (e2 ixD (eVar 11) (eK (.int 0))) (eVar 1)) (eK (.int 0)))) (eVar 11) ρ C = some ((lines.filter p).map eP, C) := fun ρ op p w0 w1 w2 w3 w4 => by
    refine lc_eq (vs := [11]) lines eP p eP (ev_asL (by unfold eVar; rw [w0]; rfl)) w3 hT fun l hl => ?_
    have hw : (wipeR ρ [11]).length = 13 := by rw [wipeR_length, w2]
    have v11 : eVar 11 ((wipeR ρ [11]).set 11 (.im (eP l))) C = some (eP l, C) := by unfold eVar; rw [List.getElem?_set_self (by rw [hw]; decide)]
    have v1 : eVar 1 ((wipeR ρ [11]).set 11 (.im (eP l))) C = some (.int (j : Int), C) := by
      unfold eVar
      rw [List.getElem?_set_ne (by decide), wipeR_at, if_neg (by simp), w1]
    exact ⟨_, if_pos (by rw [hw]; decide), ev_bOf (ev_e2 (ev_e2 (ev_e2 v11 rfl (ix_tup (i := 0) rfl)) v1 (ix_eI (by rw [(dl l hl).1]; exact hj))) rfl (w4 l)), fun _ => v11⟩
  have sp := filter_split j lines
  have h : Loop M d n j (lines.filter (nz j)) (lines.filter (zr j)) := by
    refine ⟨fun l hl => ?_, fun l hl => ?_, .inl fun l hl => bl l (List.mem_filter.mp hl).1⟩
    · obtain ⟨a, b⟩ := List.mem_filter.mp hl
      exact ⟨dl l a, of_decide_eq_true b⟩
    · obtain ⟨a, b⟩ := List.mem_filter.mp hl
      exact ⟨dl l a, of_decide_eq_true b, (bl l a).mono (m_le hM)⟩
  have ln := sp.length_eq
  rw [List.length_append] at ln
  obtain ⟨left, others, s4, s5, s6, s7, s8, s9, s10, w1, w2, w3, w4, w5⟩ := ev_while (C := C) (lines := lines) hM hFit hd hn hj _ (lines.filter (nz j)) (lines.filter (zr j)) .no .no .no .no .no .no .no (Nat.le_refl _) h (by omega) rfl
  refine ⟨left, others, ⟨w2, w3, fun Q E tl hq => w4 Q E tl (E.perm (sp.symm.append_right tl) hq), by omega⟩, ?_⟩
  refine ev_run ((ev_seq (ev_own (filt _ kEq (zr j) rfl rfl rfl rfl fun l => kEq_int _ _))).trans ((ev_seq (ev_set (ev_asD (filt _ kNe (nz j) rfl rfl rfl rfl fun l => kNe_int _ _)))).trans ((ev_seq w1).trans ((ev_fz rfl).trans (ev_ret (ev_tup (ev_cons ?_ (ev_cons rfl rfl))))))))
  cases left with
  | nil => exact ev_if0 (ev_bOf (ev_e2 rfl (ev_asD rfl) (kNe_nil _ rfl))) rfl
  | cons l ls =>
    refine ev_if1 (ev_bOf (ev_e2 (x := .lst ((l :: ls).map eP)) rfl (ev_asD rfl) ?_)) (ev_e2 rfl rfl (ix_lst (i := 0) rfl))
    rw [kNe_nil _ (okDs_map (fun x => ok_eP 57 x) _)]
    simp
/-! ### stairs -/
def posL (j : Nat) (l : Ln) : Ln := if 0 < col j l then l else negL l
def nextF (j : Nat) (found left : List Ln) : List Ln := match left with
  | [] => found
  | l :: _ => found.map (lowL j (posL j l)) ++ [posL j l]
def LB (M : Int) : Nat → Int
  | 0 => M
  | j + 1 => 6 * (LB M j * LB M j)
def FB (M : Int) : Nat → Int
  | 0 => 1
  | j + 1 => FB M j * (1 + LB M (j + 1))
theorem lb_pos {M : Int} (hM : 1 ≤ M) : ∀ j, 1 ≤ LB M j
  | 0 => hM
  | j + 1 => by
    have h := lb_pos hM j
    have := m_le h
    show 1 ≤ 6 * (LB M j * LB M j)
    omega
theorem fb_pos {M : Int} (hM : 1 ≤ M) : ∀ j, 1 ≤ FB M j
  | 0 => Int.le_refl _
  | j + 1 => by
    have h := fb_pos hM j
    have h2 := lb_pos hM (j + 1)
    have : 1 * 1 ≤ FB M j * (1 + LB M (j + 1)) := Int.mul_le_mul h (by omega) (by omega) (by omega)
    show 1 ≤ FB M j * (1 + LB M (j + 1))
    omega
/-- what holds before column j, whatever else does -/
structure Base (M : Int) (d n : Nat) (lines0 : List Ln) (j : Nat) (found lines : List Ln) : Prop where
  dl : ∀ l ∈ lines, Dim d n l
  df : ∀ l ∈ found, Dim d n l
  zl : ∀ l ∈ lines, ∀ k, k < j → col k l = 0
  el : ∀ (Q : List Ln → Prop), El Q → Q lines0 → Q (lines ++ found)
  len : lines.length + found.length = lines0.length
  bl : ∀ l ∈ lines, Bd (LB M j) l
  bf : ∀ l ∈ found, Bd (FB M j) l
theorem el_zero (d n k : Nat) : El fun ls => ∀ l ∈ ls, Dim d n l ∧ col k l = 0 where
  perm := fun p h l hl => h l (p.mem_iff.mpr hl)
  op := fun a b t tl h l hl => by
    have ha := h a List.mem_cons_self
    have hb := h b (List.mem_cons_of_mem _ List.mem_cons_self)
    rcases List.mem_cons.mp hl with e | hl
    · subst e; exact ha
    · rcases List.mem_cons.mp hl with e | hl
      · subst e
        refine ⟨dim_sub ha.1 hb.1, ?_⟩
        have := val_sub (t := t) ha.1 hb.1 (true, k)
        have e1 : val (true, k) (subL b t a) = col k (subL b t a) := rfl
        have e2 : val (true, k) b = col k b := rfl
        have e3 : val (true, k) a = col k a := rfl
        rw [e1, e2, e3, ha.2, hb.2] at this
        rw [this]
        simp
      · exact h l (List.mem_cons_of_mem _ (List.mem_cons_of_mem _ hl))
  neg := fun a tl h l hl => by
    rcases List.mem_cons.mp hl with e | hl
    · subst e
      have ha := h a List.mem_cons_self
      refine ⟨dim_neg ha.1, ?_⟩
      have := val_neg a (true, k)
      have e1 : val (true, k) (negL a) = col k (negL a) := rfl
      have e3 : val (true, k) a = col k a := rfl
      rw [e1, e3, ha.2] at this
      rw [this]
      rfl
    · exact h l (List.mem_cons_of_mem _ hl)
theorem dim_pos {d n j : Nat} {l : Ln} (h : Dim d n l) : Dim d n (posL j l) := by
  unfold posL
  split
  · exact h
  · exact dim_neg h
theorem bd_pos {M : Int} {j : Nat} {l : Ln} (h : Bd M l) : Bd M (posL j l) := by
  unfold posL
  split
  · exact h
  · exact bd_neg h
theorem col_neg (j : Nat) (l : Ln) : col j (negL l) = -col j l := val_neg l (true, j)
theorem col_posL {j : Nat} {l : Ln} (h : col j l ≠ 0) : 0 < col j (posL j l) := by
  unfold posL
  split
  · assumption
  · rw [col_neg]; omega
theorem col_pos0 {j k : Nat} {l : Ln} (h : col k l = 0) : col k (posL j l) = 0 := by
  unfold posL
  split
  · exact h
  · rw [col_neg, h]; rfl
theorem el_pos {Q : List Ln → Prop} (E : El Q) {j : Nat} {l : Ln} {tl : List Ln} (h : Q (l :: tl)) : Q (posL j l :: tl) := by
  unfold posL
  split
  · exact h
  · exact E.neg l tl h
theorem Base.next {M : Int} {d n j : Nat} {lines0 found lines left others : List Ln} (hM : 1 ≤ M) (B : Base M d n lines0 j found lines) (G : Gath (LB M j) d n j lines left others) : Base M d n lines0 (j + 1) (nextF j found left) others ∧ (∀ l ∈ left, ∀ k, k < j → col k l = 0) := by
  have zr : ∀ k, k < j → ∀ l ∈ left ++ others, col k l = 0 := fun k hk l hl => by
    have := G.el _ (el_zero d n k) [] (by rw [List.append_nil]; exact fun l hl => ⟨B.dl l hl, B.zl l hl k hk⟩)
    rw [List.append_nil] at this
    exact (this l hl).2
  have zo : ∀ l ∈ others, ∀ k, k < j + 1 → col k l = 0 := fun l hl k hk => by
    by_cases e : k = j
    · subst e; exact (G.loop.do_ l hl).2.1
    · exact zr k (by omega) l (List.mem_append_right _ hl)
  have zl : ∀ l ∈ left, ∀ k, k < j → col k l = 0 := fun l hl k hk => zr k hk l (List.mem_append_left _ hl)
  refine ⟨?_, zl⟩
  have L1 := lb_pos hM (j + 1)
  have F1 := fb_pos hM j
  have fm : FB M j ≤ FB M (j + 1) := by
    have : FB M j * 1 ≤ FB M j * (1 + LB M (j + 1)) := Int.mul_le_mul_of_nonneg_left (by omega) (by omega)
    show FB M j ≤ FB M j * (1 + LB M (j + 1))
    omega
  have bo : ∀ l ∈ others, Bd (LB M (j + 1)) l := fun l hl => (G.loop.do_ l hl).2.2
  have elG : ∀ (Q : List Ln → Prop), El Q → Q lines0 → Q (left ++ others ++ found) := fun Q E h => G.el Q E found (B.el Q E h)
  have hl := G.len
  have hb := B.len
  have few := G.few
  cases left with
  | nil => exact ⟨fun l hl => (G.loop.do_ l hl).1, B.df, zo, fun Q E h => elG Q E h, by simp at hl ⊢; simp [nextF]; omega, bo, fun l hl => (B.bf l hl).mono fm⟩
  | cons l ls =>
    have e : ls = [] := by
      cases ls with
      | nil => rfl
      | cons a b => simp at few
    subst e
    obtain ⟨dl, hz⟩ := G.loop.dl l List.mem_cons_self
    have dp := dim_pos (j := j) dl
    have cp := col_posL hz
    have bp : Bd (LB M (j + 1)) (posL j l) := bd_pos (by
      rcases G.loop.bd with h | ⟨_, h⟩
      · exact (h l List.mem_cons_self).mono (m_le (lb_pos hM j))
      · exact h l List.mem_cons_self)
    refine ⟨fun l hl => (G.loop.do_ l hl).1, fun e he => ?_, zo, fun Q E h => ?_, ?_, bo, fun e he => ?_⟩
    · rcases List.mem_append.mp he with he | he -- ht
      · obtain ⟨x, hx, rfl⟩ := List.mem_map.mp he
        exact dim_sub dp (B.df x hx)
      · have : e = posL j l := by simpa using he
        rw [this]; exact dp
    · have h1 : Q (posL j l :: (others ++ found)) := el_pos E (elG Q E h)
      have h2 : Q (posL j l :: (found ++ others)) := E.perm (List.perm_append_comm.cons _) h1
      have h3 := E.many (posL j l) (fun e => (col j e).fdiv (col j (posL j l))) found others h2
      refine E.perm ?_ h3
      show (posL j l :: (found.map (lowL j (posL j l)) ++ others)).Perm (others ++ (found.map (lowL j (posL j l)) ++ [posL j l]))
      refine List.Perm.trans ?_ List.perm_append_comm
      rw [List.append_assoc]
      exact List.perm_middle.symm
    · simp only [List.length_cons, List.length_nil] at hl
      simp only [nextF, List.length_append, List.length_map, List.length_cons, List.length_nil]
      omega
    · rcases List.mem_append.mp he with he | he -- ht
      · obtain ⟨x, hx, rfl⟩ := List.mem_map.mp he
        intro s
        have := val_sub (t := (col j x).fdiv (col j (posL j l))) dp (B.df x hx) s
        show Sm (FB M (j + 1)) (val s (subL x ((col j x).fdiv (col j (posL j l))) (posL j l)))
        rw [this]
        have t1 := sm_mul (fd_small (B.bf x hx (true, j)) (a := col j (posL j l)) (by omega) (by omega)) (bp s)
        have t2 := sm_sub (B.bf x hx s) t1
        refine t2.mono ?_
        show FB M j + FB M j * LB M (j + 1) ≤ FB M j * (1 + LB M (j + 1))
        rw [Int.mul_add, Int.mul_one]
        exact Int.le_refl _
      · have : e = posL j l := by simpa using he
        rw [this]
        refine bp.mono ?_
        have m1 : 1 * (1 + LB M (j + 1)) ≤ FB M j * (1 + LB M (j + 1)) := Int.mul_le_mul_of_nonneg_right F1 (by omega)
        show LB M (j + 1) ≤ FB M j * (1 + LB M (j + 1))
        omega
theorem posD (j : Nat) (l : Ln) : (if 0 < col j l then l else negL l) = posL j l := by unfold posL; rfl
def lines0 (rows : List (List Int)) : List Ln := rows.zip (unitM rows.length)
noncomputable abbrev stB : SF := (sSeq (sAsg (gTupD 2 (gsCons (gSet 4) (gsCons (gSet 1) gsNil))) (eCallN 2 F_gathered (aCons (eVar 1) (aCons (eVar 3) aNil)))) (sIf (bOf (e2 kIsNot (eVar 4) (eK .non))) (sSeq (sSet 4 (eCallN 2 F_positive (aCons (eVar 4) (aCons (eVar 3) aNil)))) (sSet 2 (asD (lCat (asL (eCallN 2 F_lowered (aCons (eVar 2) (aCons (eVar 4) aNil)))) (lLst (aCons (eVar 4) aNil)))))) sNext))
theorem stairs_loop {C : Mem} {M : Int} {d : Nat} {rows : List (List Int)} (E : Nat → List Ln → List Ln → Prop) (hM : 1 ≤ M) (hd : d ≤ 100000) (hn : rows.length ≤ 100000) (len0 : (lines0 rows).length = rows.length)
    (hfL : ∀ j, j ≤ d → ∀ x, Sm (LB M j) x → Fit x) (hfF : ∀ j, j ≤ d → ∀ x, Sm (FB M j) x → Fit x)
    (hs : ∀ j found lines left others, j < d → Base M d rows.length (lines0 rows) j found lines → E j found lines → Gath (LB M j) d rows.length j lines left others → (∀ l ∈ left, ∀ k, k < j → col k l = 0) → E (j + 1) (nextF j found left) others) :
    ∀ (k j : Nat) (found lines : List Ln) (s3 s4 : Sl), j + k = d → Base M d rows.length (lines0 rows) j found lines → E j found lines →
      ∃ (found' lines' : List Ln) (s3' s4' : Sl), Base M d rows.length (lines0 rows) d found' lines' ∧ E d found' lines' ∧
        forGo (gSet 3) stB ((List.range' j k).map fun (i : Nat) => D.int (i : Int)) [.im (eT rows), .im (eLs lines), .im (eLs found), s3, s4, .no, .no] C = some (.nx [.im (eT rows), .im (eLs lines'), .im (eLs found'), s3', s4', .no, .no], C) := by
  intro k
  induction k with
  | zero =>
    intro j found lines s3 s4 hj B e
    have : j = d := by omega
    subst this
    exact ⟨found, lines, s3, s4, B, e, rfl⟩
  | succ k ih =>
    intro j found lines s3 s4 hj B e
    have jd : j < d := by omega
    obtain ⟨left, others, G, ev⟩ := ev_gathered (C := C) (M := LB M j) (d := d) (n := rows.length) (j := j) (lines := lines) (lb_pos hM j) (hfL (j + 1) (by omega)) hd hn jd B.dl B.bl (by have := B.len; omega)
    obtain ⟨B', zl⟩ := B.next hM G
    have e' := hs j found lines left others jd B e G zl
    have hlen := B.len
    have glen := G.len
    have few := G.few
    cases left with
    | nil =>
      obtain ⟨found', lines', s3', s4', r1, r2, r3⟩ := ih (j + 1) found others (.im (.int (j : Int))) (.im .non) (by omega) B' e'
      refine ⟨found', lines', s3', s4', r1, r2, forGo_cons rfl ((ev_seq (ev_asg (ev_call (ev_cons rfl (ev_cons rfl rfl)) ev) rfl)).trans ((ev_ifF (ev_bOf (ev_e2 rfl rfl rfl))).trans rfl)) r3⟩
    | cons l ls =>
      have e1 : ls = [] := by
        cases ls with
        | nil => rfl
        | cons a b => simp at few
      subst e1
      obtain ⟨dl, hz⟩ := G.loop.dl l List.mem_cons_self
      have dp := dim_pos (j := j) dl
      have cp := col_posL hz
      have bp : Bd (LB M (j + 1)) (posL j l) := bd_pos (by
        rcases G.loop.bd with h | ⟨_, h⟩
        · exact (h l List.mem_cons_self).mono (m_le (lb_pos hM j))
        · exact h l List.mem_cons_self)
      have inRow : ∀ (r : List Int), ∀ y ∈ r, ∃ k, r.getD k 0 = y := fun r y hy => by
        obtain ⟨k, hk⟩ := List.mem_iff_getElem?.mp hy
        exact ⟨k, by rw [List.getD_eq_getElem?_getD, hk]; rfl⟩
      have F1 := fb_pos hM j
      have low := ev_lowered (C := C) (d := d) (n := rows.length) (c := j) (found := found) (line := posL j l) hd hn (by omega) jd dp B.df (fun k hk => col_pos0 (k := k) (zl l List.mem_cons_self k hk)) (by omega)
        (fun x hx => hfF j (by omega) _ (fd_small (B.bf x hx (true, j)) (by omega) (by omega)))
        (fun y hy => by obtain ⟨k, e⟩ := inRow _ y hy; rw [← e]; exact hfL (j + 1) (by omega) _ (bp (true, k)))
        (fun y hy => by obtain ⟨k, e⟩ := inRow _ y hy; rw [← e]; exact hfL (j + 1) (by omega) _ (bp (false, k)))
      have pos := ev_positive (C := C) (l := l) (j := j) (by rw [dl.1]; exact jd) (by rw [dl.1]; exact hd) (by rw [dl.2]; exact hn)
      rw [posD] at pos
      obtain ⟨found', lines', s3', s4', r1, r2, r3⟩ := ih (j + 1) (nextF j found [l]) others (.im (.int (j : Int))) (.im (eP (posL j l))) (by omega) B' e'
      refine ⟨found', lines', s3', s4', r1, r2, forGo_cons rfl ((ev_seq (ev_asg (ev_call (ev_cons rfl (ev_cons rfl rfl)) ev) rfl)).trans ((ev_ifT (ev_bOf (ev_e2 rfl rfl rfl))).trans ((ev_seq (ev_set (ev_call (ev_cons rfl (ev_cons rfl rfl)) pos))).trans
        (ev_set (ev_asD (ev_cat (ev_asL (ev_call (ev_cons rfl (ev_cons rfl rfl)) low)) (ev_lst (ev_cons rfl rfl)) ?_)))))) ?_⟩
      · simp only [List.length_map, List.length_cons, List.length_nil]
        simp only [List.length_cons, List.length_nil] at glen
        omega
      · have : (found.map (lowL j (posL j l))).map eP ++ [eP (posL j l)] = (nextF j found [l]).map eP := by simp [nextF]
        rw [this]
        exact r3
theorem stairs_z0 {C : Mem} {rows : List (List Int)} (hn : rows.length ≤ 100000) (len0 : (lines0 rows).length = rows.length) : lBd (lZip (asD (lLc [5] (asL (eVar 0)) (gSet 5) bTrue (asD (asL (eVar 5))))) (eCallN 1 F_unit (aCons (e1 kLen (eVar 0)) aNil))) (rho0 N_stairs.length [eT rows]) C = some ((lines0 rows).map eP, C) := by
  have copies := lc_map (vs := [5]) (fi := asL (eVar 0)) (k := gSet 5) (ef := asD (asL (eVar 5))) (ρ := rho0 N_stairs.length [eT rows]) (C := C) (C0 := C) rows eI eI rfl rfl hn fun r hr => ⟨_, rfl, rfl⟩
  have hu : eCallN 1 F_unit (aCons (e1 kLen (eVar 0)) aNil) (rho0 N_stairs.length [eT rows]) C = some (eT (unitM rows.length), C) := by
    refine ev_call (ev_cons (ev_e1 (x := eT rows) rfl rfl) rfl) ?_
    rw [List.length_map]
    exact ev_unit hn
  have hz := ev_zip (ev_asD copies) hu
  rw [zipD_eq] at hz
  exact ev_bd hz (by rw [List.length_map]; have := len0; unfold lines0 at this; omega)
theorem stairs_rng {C : Mem} {d : Nat} {rows : List (List Int)} (hd : d ≤ 100000) (hpos : 0 < rows.length) (dr : ∀ r ∈ rows, r.length = d) : lRng1 (eIf (bOf (e2 (kCmp fun i j => decide (j < i)) (e1 kLen (eVar 0)) (eK (.int 0)))) (e1 kLen (e2 ixD (eVar 0) (eK (.int 0)))) (eK (.int 0))) [.im (eT rows), .im (eLs (lines0 rows)), .im (eLs []), .no, .no, .no, .no] C = some ((List.range' 0 d).map fun (i : Nat) => D.int (i : Int), C) := by
  rw [← List.range_eq_range']
  refine ev_rng1 (ev_if1 (ev_bOf (ev_e2 (ev_e1 (x := eT rows) rfl rfl) rfl ?_)) ?_) (by omega)
  · show some (D.bl (decide ((0 : Int) < ((rows.map eI).length : Int)))) = _
    rw [List.length_map, decide_eq_true (by omega)]
  · cases rows with
    | nil => simp at hpos
    | cons r rs =>
      have := dr r List.mem_cons_self
      refine ev_e1 (x := eI r) (ev_e2 rfl rfl (ix_lst (ds := (r :: rs).map eI) (i := 0) rfl)) ?_
      show some (D.int ((r.map D.int).length : Int)) = _
      rw [List.length_map, this]
theorem stairs_comp {C : Mem} (i : Nat) (ls : List Ln) (ρ : Rho) (m : Nat) (g : Ln → D) (hg : ∀ l, g l = (if m = 5 then eI l.1 else eI l.2)) (hm : m = 5 ∨ m = 6) (w1 : ρ[i]? = some (.im (eLs ls))) (w2 : ρ.length = 7) (w3 : noOw ρ [5, 6] = true) (w4 : ls.length ≤ 100000) :
    lLc [5, 6] (asL (eVar i)) (gTupD 2 (gsCons (gSet 5) (gsCons (gSet 6) gsNil))) bTrue (eVar m) ρ C = some (ls.map g, C) := by
  refine lc_map (vs := [5, 6]) ls eP g (ev_asL (by unfold eVar; rw [w1]; rfl)) w3 w4 fun l hl => ?_
  have hw : (wipeR ρ [5, 6]).length = 7 := by rw [wipeR_length, w2]
  refine ⟨((wipeR ρ [5, 6]).set 5 (.im (eI l.1))).set 6 (.im (eI l.2)), ?_, ?_⟩
  · show gsCons (gSet 5) (gsCons (gSet 6) gsNil) [eI l.1, eI l.2] (wipeR ρ [5, 6]) = _
    unfold gsCons gSet
    dsimp only
    rw [if_pos (by rw [hw]; decide)]
    dsimp only
    rw [if_pos (by rw [List.length_set, hw]; decide)]
    rfl
  · rw [hg]
    unfold eVar
    rcases hm with rfl | rfl
    · rw [List.getElem?_set_ne (by decide), List.getElem?_set_self (by rw [hw]; decide)]
      rfl
    · rw [List.getElem?_set_self (by rw [List.length_set, hw]; decide)]
      rfl
theorem fin_eT (ls : List Ln) (f : Ln → List Int) : D.lst (ls.map fun l => eI (f l)) = eT (ls.map f) := by
  show D.lst _ = D.lst _
  rw [List.map_map]
  rfl
/-- stairs, with whatever E one carries along -/
theorem ev_stairs {C : Mem} {M : Int} {d : Nat} {rows : List (List Int)} (E : Nat → List Ln → List Ln → Prop) (hM : 1 ≤ M) (hd : d ≤ 100000) (hn : rows.length ≤ 100000) (hpos : 0 < rows.length) (dr : ∀ r ∈ rows, r.length = d)
    (hfL : ∀ j, j ≤ d → ∀ x, Sm (LB M j) x → Fit x) (hfF : ∀ j, j ≤ d → ∀ x, Sm (FB M j) x → Fit x) (b0 : ∀ l ∈ lines0 rows, Bd M l) (e0 : E 0 [] (lines0 rows))
    (hs : ∀ j found lines left others, j < d → Base M d rows.length (lines0 rows) j found lines → E j found lines → Gath (LB M j) d rows.length j lines left others → (∀ l ∈ left, ∀ k, k < j → col k l = 0) → E (j + 1) (nextF j found left) others) :
    ∃ found lines, Base M d rows.length (lines0 rows) d found lines ∧ E d found lines ∧ F_stairs [eT rows] C = some (.tup [eT (found.map (·.1)), eT (found.map (·.2)), eT (lines.map (·.2))], C) := by
  have len0 : (lines0 rows).length = rows.length := by simp [lines0, unitM]
  have d0 : ∀ l ∈ lines0 rows, Dim d rows.length l := fun l hl => by
    obtain ⟨h1, h2⟩ := List.of_mem_zip (show (l.1, l.2) ∈ rows.zip (unitM rows.length) from hl)
    refine ⟨dr _ h1, ?_⟩
    obtain ⟨i, _, e⟩ := List.mem_map.mp h2
    rw [← e]
    simp
  have B0 : Base M d rows.length (lines0 rows) 0 [] (lines0 rows) := ⟨d0, by simp, fun l _ k hk => absurd hk (by omega), fun Q _ h => by rw [List.append_nil]; exact h, by simp, b0, by simp⟩
  obtain ⟨found, lines, s3, s4, r1, r2, r3⟩ := stairs_loop (C := C) E hM hd hn len0 hfL hfF hs d 0 [] (lines0 rows) .no .no (by omega) B0 e0
  refine ⟨found, lines, r1, r2, ?_⟩
  have l1 := r1.len
  have c1 := stairs_comp (C := C) 2 found [.im (eT rows), .im (eLs lines), .im (eLs found), s3, s4, .no, .no] 5 (fun l => eI l.1) (fun l => rfl) (.inl rfl) rfl rfl rfl (by omega)
  have c2 := stairs_comp (C := C) 2 found [.im (eT rows), .im (eLs lines), .im (eLs found), s3, s4, .no, .no] 6 (fun l => eI l.2) (fun l => rfl) (.inr rfl) rfl rfl rfl (by omega)
  have c3 := stairs_comp (C := C) 1 lines [.im (eT rows), .im (eLs lines), .im (eLs found), s3, s4, .no, .no] 6 (fun l => eI l.2) (fun l => rfl) (.inr rfl) rfl rfl rfl (by omega)
  have k1 := ev_asD c1
  have k2 := ev_asD c2
  have k3 := ev_asD c3
  rw [fin_eT] at k1 k2 k3
  have body : b_stairs (rho0 N_stairs.length [eT rows]) C = some (.rt (.tup [eT (found.map (·.1)), eT (found.map (·.2)), eT (lines.map (·.2))]), C) :=
    (ev_seq (ev_set (ev_asD (stairs_z0 hn len0)))).trans ((ev_seq (ev_set (ev_asD (ev_lst (ds := []) (C1 := C) rfl)))).trans ((ev_seq ((ev_for (stairs_rng hd hpos dr)).trans r3)).trans (ev_ret (ev_tup (C1 := C) (ev_cons k1 (ev_cons k2 (ev_cons k3 rfl)))))))
  exact ev_run body
end K62


set_option maxRecDepth 100000
set_option maxHeartbeats 1000000 -- ht
/-! k62: what stairs gives. -/
namespace K62
open PySem PySem.Spec PyProof.Rows L2 Ht Mth
/-! ### sizes -/
def aE (a : Nat) : Nat → Nat
  | 0 => a
  | j + 1 => 2 * aE a j + 3
def fE (a : Nat) : Nat → Nat
  | 0 => 0
  | j + 1 => fE a j + aE a (j + 1) + 1
theorem pow_mono {a b : Nat} (h : a ≤ b) : (2 : Int) ^ a ≤ 2 ^ b := by
  have : (2 : Nat) ^ a ≤ 2 ^ b := Nat.pow_le_pow_right (by decide) h
  exact_mod_cast this
theorem pow_pos' (a : Nat) : (1 : Int) ≤ 2 ^ a := by
  have : 1 ≤ (2 : Nat) ^ a := Nat.one_le_two_pow
  exact_mod_cast this
theorem lb_le {M : Int} {a : Nat} (hM : 1 ≤ M) (ha : M ≤ 2 ^ a) : ∀ j, LB M j ≤ 2 ^ aE a j
  | 0 => ha
  | j + 1 => by
    have h := lb_le hM ha j
    have p := lb_pos hM j
    have m : LB M j * LB M j ≤ 2 ^ aE a j * 2 ^ aE a j := Int.mul_le_mul h h (by omega) (by have := pow_pos' (aE a j); omega)
    have e : (2 : Int) ^ aE a (j + 1) = 2 ^ aE a j * 2 ^ aE a j * 8 := by
      show (2 : Int) ^ (2 * aE a j + 3) = _
      rw [Int.pow_add, Nat.two_mul, Int.pow_add]
      rfl
    have q : 0 ≤ LB M j * LB M j := Int.mul_nonneg (by omega) (by omega)
    show 6 * (LB M j * LB M j) ≤ _
    rw [e]
    omega
theorem fb_le {M : Int} {a : Nat} (hM : 1 ≤ M) (ha : M ≤ 2 ^ a) : ∀ j, FB M j ≤ 2 ^ fE a j
  | 0 => by show (1 : Int) ≤ 2 ^ 0; decide
  | j + 1 => by
    have h := fb_le hM ha j
    have p := fb_pos hM j
    have l := lb_le hM ha (j + 1)
    have lp := lb_pos hM (j + 1)
    have pp := pow_pos' (aE a (j + 1))
    have m : FB M j * (1 + LB M (j + 1)) ≤ 2 ^ fE a j * (2 * 2 ^ aE a (j + 1)) := Int.mul_le_mul h (by omega) (by omega) (by have := pow_pos' (fE a j); omega)
    have e : (2 : Int) ^ fE a (j + 1) = 2 ^ fE a j * (2 * 2 ^ aE a (j + 1)) := by
      show (2 : Int) ^ (fE a j + aE a (j + 1) + 1) = _
      rw [Int.pow_add, Int.pow_add]
      grind
    show FB M j * (1 + LB M (j + 1)) ≤ _
    rw [e]
    exact m
theorem aE_eq (a : Nat) : ∀ j, aE a j + 3 = 2 ^ j * (a + 3)
  | 0 => by simp [aE]
  | j + 1 => by
    have := aE_eq a j
    have e : 2 ^ (j + 1) * (a + 3) = 2 * (2 ^ j * (a + 3)) := by rw [Nat.pow_succ]; grind
    show 2 * aE a j + 3 + 3 = _
    rw [e]
    omega
theorem aE_le {a j : Nat} (ha : a ≤ 200) (hj : j ≤ 12) : aE a j ≤ 1000000 := by
  have h := aE_eq a j
  have p : 2 ^ j ≤ 2 ^ 12 := Nat.pow_le_pow_right (by decide) hj
  have m : 2 ^ j * (a + 3) ≤ 4096 * 203 := Nat.mul_le_mul p (by omega)
  omega
theorem fE_le {a : Nat} (ha : a ≤ 200) : ∀ j, j ≤ 12 → fE a j ≤ j * 1000001
  | 0, _ => by simp [fE]
  | j + 1, hj => by
    have h1 := fE_le ha j (by omega)
    have h2 := aE_le (a := a) (j := j + 1) ha hj
    show fE a j + aE a (j + 1) + 1 ≤ _
    omega
theorem fit_pow {e : Nat} {x B : Int} (hx : Sm B x) (hB : B ≤ 2 ^ e) (he : e < 60000000) : Fit x := by
  refine ⟨e + 1, he, ?_⟩
  have h1 : (x.natAbs : Int) ≤ 2 ^ e := by unfold Sm at hx; omega
  have h2 : x.natAbs ≤ 2 ^ e := by exact_mod_cast h1
  have h3 : (2 : Nat) ^ (e + 1) = 2 ^ e * 2 := Nat.pow_succ _ _
  have h4 : 1 ≤ (2 : Nat) ^ e := Nat.one_le_two_pow
  omega
theorem fitL {M : Int} {a d : Nat} (hM : 1 ≤ M) (h : M ≤ 2 ^ a) (ha : a ≤ 200) (hd : d ≤ 12) : ∀ j, j ≤ d → ∀ x, Sm (LB M j) x → Fit x := fun j hj x hx =>
  fit_pow hx (lb_le hM h j) (by have := aE_le (a := a) (j := j) ha (by omega); omega)
theorem fitF {M : Int} {a d : Nat} (hM : 1 ≤ M) (h : M ≤ 2 ^ a) (ha : a ≤ 200) (hd : d ≤ 12) : ∀ j, j ≤ d → ∀ x, Sm (FB M j) x → Fit x := fun j hj x hx =>
  fit_pow hx (fb_le hM h j) (by have := fE_le (a := a) ha j (by omega); omega)
/-! ### the rows stand in stairs -/
inductive Ec : Nat → List Ln → Prop
  | nil (j : Nat) : Ec j []
  | snoc {c j : Nat} {fs : List Ln} {l : Ln} : Ec c fs → c < j → (∀ k, k < c → col k l = 0) → col c l ≠ 0 → Ec j (fs ++ [l])
theorem Ec.map {j : Nat} {fs : List Ln} (h : Ec j fs) : ∀ (g : Ln → Ln), (∀ l ∈ fs, ∀ k, k < j → (col k (g l) = 0 ↔ col k l = 0)) → Ec j (fs.map g) := by
  induction h with
  | nil j => intro g _; exact .nil j
  | @snoc c j fs l h1 h2 h3 h4 ih =>
    intro g hg
    rw [List.map_append]
    have hl := hg l (List.mem_append_right _ List.mem_cons_self)
    refine .snoc (ih g fun x hx k hk => hg x (List.mem_append_left _ hx) k (by omega)) h2 (fun k hk => (hl k (by omega)).mpr (h3 k hk)) (fun z => h4 ((hl c h2).mp z))
theorem Ec.mono {i j : Nat} {fs : List Ln} (h : Ec i fs) (hij : i ≤ j) : Ec j fs := by
  cases h with
  | nil => exact .nil j
  | snoc h1 h2 h3 h4 => exact .snoc h1 (by omega) h3 h4
theorem Ec.few {j : Nat} {fs : List Ln} (h : Ec j fs) : fs.length ≤ j := by
  induction h with
  | nil => simp
  | snoc h1 h2 h3 h4 ih => rw [List.length_append]; simp; omega
theorem col_low {d n j k : Nat} {p e : Ln} (hp : Dim d n p) (he : Dim d n e) : col k (lowL j p e) = col k e - (col j e).fdiv (col j p) * col k p := val_sub hp he (true, k)
theorem col_pos_lt {j k : Nat} {l : Ln} (h : col k l = 0) : col k (posL j l) = 0 := col_pos0 h
theorem ec_next {M : Int} {d n j : Nat} {lines0 found lines left others : List Ln} (B : Base M d n lines0 j found lines) (e : Ec j found) (G : Gath (LB M j) d n j lines left others) (zl : ∀ l ∈ left, ∀ k, k < j → col k l = 0) : Ec (j + 1) (nextF j found left) := by
  cases left with
  | nil => exact e.mono (by omega)
  | cons l ls =>
    obtain ⟨dl, hz⟩ := G.loop.dl l List.mem_cons_self
    have dp := dim_pos (j := j) dl
    have cp := col_posL hz
    have z : ∀ k, k < j → col k (posL j l) = 0 := fun k hk => col_pos0 (zl l List.mem_cons_self k hk)
    refine .snoc (c := j) (e.map _ fun x hx k hk => ?_) (by omega) z (by omega)
    rw [col_low dp (B.df x hx), z k hk]
    simp
/-! ### all unit vectors made: the rows found are the unit rows -/
def Idn (j : Nat) (found : List Ln) : Prop := found.length = j ∧ ∀ (i : Nat) (e : Ln), found[i]? = some e → ∀ k, k < j → col k e = un i k
theorem idn_next {M : Int} {n j : Nat} {lines0 found lines left others : List Ln} (hj : j < n) (B : Base M n n lines0 j found lines) (g0 : (∀ l ∈ lines0, Dim n n l) ∧ Gen n rw' lines0) (e : Idn j found) (G : Gath (LB M j) n n j lines left others) (zl : ∀ l ∈ left, ∀ k, k < j → col k l = 0)
    (B' : Base M n n lines0 (j + 1) (nextF j found left) others) : Idn (j + 1) (nextF j found left) := by
  -- what is made of the rows, less what the found rows give: a multiple of p
  have key : ∀ p : Int, (∀ l ∈ left, col j l = p ∨ col j l = -p) → p ∣ 1 := fun p hp => by
    have hg := (G.el _ (el_gen (d := n) (n := n) (m := n) (lf_rw n n)) found (B.el _ (el_gen (d := n) (n := n) (m := n) (lf_rw n n)) g0)).2
    obtain ⟨w, hw, he⟩ := hg j hj
    have mult : ∀ w, Spn rw' (left ++ others ++ found) w → p ∣ w j - dotN j w (fun i => col j (found.getD i ([], []))) := fun w hw => by
      induction hw with
      | zero => rw [dot_zero]; simp
      | @add w l c hl _ ih =>
        have e2 : dotN j (fun k => w k + c * rw' l k) (fun i => col j (found.getD i ([], []))) = dotN j w (fun i => col j (found.getD i ([], []))) + c * dotN j (rw' l) (fun i => col j (found.getD i ([], []))) := dot_addL _ _ _ _ _
        have e3 : w j + c * rw' l j - dotN j (fun k => w k + c * rw' l k) (fun i => col j (found.getD i ([], []))) = (w j - dotN j w (fun i => col j (found.getD i ([], [])))) + c * (rw' l j - dotN j (rw' l) (fun i => col j (found.getD i ([], [])))) := by rw [e2]; grind
        rw [e3]
        refine Int.dvd_add ih (Int.dvd_mul_of_dvd_right ?_)
        have zero : (∀ k, k < j → col k l = 0) → dotN j (rw' l) (fun i => col j (found.getD i ([], []))) = 0 := fun z => by
          exact (dot_congr (u := rw' l) (u' := fun _ => 0) (v' := fun i => col j (found.getD i ([], []))) z fun _ _ => rfl).trans (dot_zero _ _)
        rcases List.mem_append.mp hl with hl | hl
        · rcases List.mem_append.mp hl with hl | hl
          · rw [zero (zl l hl), Int.sub_zero]
            rcases hp l hl with h | h
            · exact ⟨1, by rw [Int.mul_one]; exact h⟩
            · exact ⟨-1, by rw [Int.mul_neg, Int.mul_one]; exact h⟩
          · have z0 := (G.loop.do_ l hl).2.1
            rw [zero fun k hk => B'.zl l hl k (by omega), Int.sub_zero]
            exact ⟨0, by rw [Int.mul_zero]; exact z0⟩
        · obtain ⟨i, hi⟩ := List.mem_iff_getElem?.mp hl
          have hij : i < j := by have := (List.getElem?_eq_some_iff.mp hi).1; rw [e.1] at this; exact this
          have h1 : dotN j (rw' l) (fun i => col j (found.getD i ([], []))) = dotN j (un i) (fun i => col j (found.getD i ([], []))) := dot_congr (fun k hk => e.2 i l hi k hk) fun _ _ => rfl
          rw [h1, dot_un, if_pos hij]
          have h2 : found.getD i ([], []) = l := by rw [List.getD_eq_getElem?_getD, hi]; rfl
          rw [h2]
          exact ⟨0, by rw [Int.mul_zero]; exact Int.sub_self _⟩
    have m := mult w hw
    have h1 : w j = 1 := by rw [he j hj]; simp [un]
    have h2 : dotN j w (fun i => col j (found.getD i ([], []))) = 0 := by
      rw [dot_congr (u' := fun _ => 0) (v' := fun i => col j (found.getD i ([], []))) (fun k hk => by rw [he k (by omega)]; simp [un]; omega) fun _ _ => rfl, dot_zero]
    rw [h1, h2] at m
    simpa using m
  have few := G.few
  cases left with
  | nil =>
    have := key 0 (by simp)
    simp at this
  | cons l ls =>
    have e1 : ls = [] := by
      cases ls with
      | nil => rfl
      | cons a b => simp at few
    subst e1
    obtain ⟨dl, hz⟩ := G.loop.dl l List.mem_cons_self
    have dp := dim_pos (j := j) dl
    have cp := col_posL hz
    have d1 := key (col j (posL j l)) fun x hx => by
      have : x = l := by simpa using hx
      subst this
      unfold posL
      split
      · exact .inl rfl
      · rw [col_neg]; right; omega
    have p1 : col j (posL j l) = 1 := by
      have := Int.le_of_dvd (by decide) d1
      omega
    have z : ∀ k, k < j → col k (posL j l) = 0 := fun k hk => col_pos0 (zl l List.mem_cons_self k hk)
    refine ⟨by simp [nextF, e.1], fun i x hx k hk => ?_⟩
    have hx : (found.map (lowL j (posL j l)) ++ [posL j l])[i]? = some x := hx
    by_cases hi : i < j
    · rw [List.getElem?_append_left (by rw [List.length_map, e.1]; exact hi), List.getElem?_map] at hx
      cases q : found[i]? with
      | none => rw [q] at hx; cases hx
      | some y =>
        rw [q] at hx
        cases hx
        have dy := B.df y (List.mem_of_getElem? q)
        rw [col_low dp dy, p1, Int.fdiv_one]
        by_cases hkj : k = j
        · subst hkj
          rw [p1]
          simp [un]
          omega
        · rw [z k (by omega), e.2 i y q k (by omega)]
          simp
    · rw [List.getElem?_append_right (by rw [List.length_map, e.1]; omega), List.length_map, e.1] at hx
      have hi2 : i = j := by
        have := (List.getElem?_eq_some_iff.mp hx).1
        simp at this
        omega
      subst hi2
      rw [Nat.sub_self] at hx
      cases hx
      by_cases hkj : k = i
      · subst hkj; rw [p1]; simp [un]
      · rw [z k (by omega)]
        simp [un]
        omega
/-! ### the basis -/
def rowOf (t : List (List Int)) (i : Nat) : Nat → Int := fun k => (t.getD i []).getD k 0
structure Basis (d : Nat) (ways zeros makers back : List (List Int)) (found : List Ln) : Prop where
  nz : zeros.length + makers.length = ways.length
  nb : back.length = ways.length
  rowsZ : ∀ r ∈ zeros, r.length = ways.length
  rowsM : ∀ r ∈ makers, r.length = ways.length
  rowsB : ∀ r ∈ back, r.length = ways.length
  fitZ : ∀ r ∈ zeros, ∀ x ∈ r, Sm (2 ^ 200) x
  fitM : ∀ r ∈ makers, ∀ x ∈ r, Sm (2 ^ 200) x
  fitB : ∀ r ∈ back, ∀ x ∈ r, Fit x
  inv : ∀ i j, i < ways.length → j < ways.length → dotN ways.length (rowOf (zeros ++ makers) i) (fun k => rowOf back k j) = un i j
  zero : ∀ r ∈ zeros, ∀ k, k < d → dotN ways.length (fun t => r.getD t 0) (fun t => rowOf ways t k) = 0
  ec : Ec d found
  mks : makers = found.map (·.2)
  fd : ∀ l ∈ found, l.1.length = d
  fb : ∀ l ∈ found, ∀ s, Sm (2 ^ 200) (val s l)
  made : ∀ l ∈ found, ∀ k, col k l = dotN ways.length (mk l) (fun t => rowOf ways t k)
theorem mem_get {r : List Int} {y : Int} (h : y ∈ r) : ∃ k, r.getD k 0 = y := by
  obtain ⟨k, hk⟩ := List.mem_iff_getElem?.mp h
  exact ⟨k, by rw [List.getD_eq_getElem?_getD, hk]; rfl⟩
theorem unit_get {n i : Nat} (hi : i < n) (k : Nat) (hk : k < n) : ((List.range n).map fun j => if i = j then (1 : Int) else 0).getD k 0 = un i k := by
  rw [List.getD_eq_getElem?_getD, List.getElem?_map, List.getElem?_range hk]
  rfl
theorem lines0_at {rows : List (List Int)} {l : Ln} (h : l ∈ lines0 rows) : ∃ i, i < rows.length ∧ rows[i]? = some l.1 ∧ l.2 = (List.range rows.length).map fun j => if i = j then (1 : Int) else 0 := by
  obtain ⟨i, hi⟩ := List.mem_iff_getElem?.mp h
  unfold lines0 at hi
  rw [List.getElem?_zip_eq_some] at hi
  obtain ⟨h1, h2⟩ := hi
  have hl := (List.getElem?_eq_some_iff.mp h1).1
  refine ⟨i, hl, h1, ?_⟩
  unfold unitM at h2
  rw [List.getElem?_map, List.getElem?_range hl] at h2
  exact (Option.some.inj h2).symm
theorem lines0_of {rows : List (List Int)} {i : Nat} (hi : i < rows.length) : (rows.getD i [], (List.range rows.length).map fun j => if i = j then (1 : Int) else 0) ∈ lines0 rows := by
  refine List.mem_iff_getElem?.mpr ⟨i, ?_⟩
  unfold lines0
  rw [List.getElem?_zip_eq_some]
  refine ⟨?_, ?_⟩
  · rw [List.getD_eq_getElem?_getD, List.getElem?_eq_getElem hi]; rfl
  · unfold unitM
    rw [List.getElem?_map, List.getElem?_range hi]
    rfl
theorem dims0 {d : Nat} {rows : List (List Int)} (dr : ∀ r ∈ rows, r.length = d) : ∀ l ∈ lines0 rows, Dim d rows.length l := fun l hl => by
  obtain ⟨i, hi, h1, h2⟩ := lines0_at hl
  exact ⟨dr _ (List.mem_of_getElem? h1), by rw [h2]; simp⟩
theorem mk0 {rows : List (List Int)} {l : Ln} (h : l ∈ lines0 rows) : ∃ i, i < rows.length ∧ rows[i]? = some l.1 ∧ ∀ k, k < rows.length → mk l k = un i k := by
  obtain ⟨i, hi, h1, h2⟩ := lines0_at h
  exact ⟨i, hi, h1, fun k hk => by unfold mk; rw [h2]; exact unit_get hi k hk⟩
theorem made0 {d : Nat} {rows : List (List Int)} (dr : ∀ r ∈ rows, r.length = d) (k : Nat) : ∀ l ∈ lines0 rows, Dim d rows.length l ∧ rw' l k - dotN rows.length (mk l) (fun t => rowOf rows t k) = 0 := fun l hl => by
  refine ⟨dims0 dr l hl, ?_⟩
  obtain ⟨i, hi, h1, h2⟩ := mk0 hl
  rw [dot_congr (u' := un i) (v' := fun t => rowOf rows t k) h2 fun _ _ => rfl, dot_un, if_pos hi]
  have : rowOf rows i k = rw' l k := by
    unfold rowOf rw'
    rw [List.getD_eq_getElem?_getD (l := rows), h1]
    rfl
  rw [this]
  exact Int.sub_self _
theorem bd0 {M : Int} {rows : List (List Int)} (hM : 1 ≤ M) (hr : ∀ r ∈ rows, ∀ x ∈ r, Sm M x) : ∀ l ∈ lines0 rows, Bd M l := fun l hl s => by
  obtain ⟨i, hi, h1, h2⟩ := lines0_at hl
  have z0 : Sm M 0 := ⟨by omega, by omega⟩
  have key : ∀ (r : List Int) (k : Nat), (∀ x ∈ r, Sm M x) → Sm M (r.getD k 0) := fun r k h => by
    rw [List.getD_eq_getElem?_getD] -- ht
    cases q : r[k]? with
    | none => exact z0
    | some x => exact h x (List.mem_of_getElem? q)
  obtain ⟨b, k⟩ := s
  cases b
  · refine key l.2 k fun x hx => ?_
    rw [h2] at hx
    obtain ⟨j, _, e⟩ := List.mem_map.mp hx
    rw [← e]
    split
    · exact ⟨by omega, by omega⟩
    · exact z0
  · exact key l.1 k (hr _ (List.mem_of_getElem? h1))
/-- the first stairs, then those over the makers -/
theorem ev_basis {C : Mem} {d : Nat} {ways : List (List Int)} (hd1 : d ≤ 3) (h0 : 0 < ways.length) (h12 : ways.length ≤ 12) (dr : ∀ r ∈ ways, r.length = d) (hr : ∀ r ∈ ways, ∀ x ∈ r, Sm 2048 x) :
    ∃ zeros makers back found, Basis d ways zeros makers back found ∧ (∃ rows, F_stairs [eT ways] C = some (.tup [eT rows, eT makers, eT zeros], C)) ∧ (∃ rows rest, F_stairs [eT (zeros ++ makers)] C = some (.tup [eT rows, eT back, eT rest], C)) := by
  have p11 : (2048 : Int) ≤ 2 ^ 11 := by decide
  have M1 : (1 : Int) ≤ 2048 := by decide
  obtain ⟨found, lines, B, e, ev⟩ := ev_stairs (C := C) (M := 2048) (d := d) (rows := ways) (fun j f _ => Ec j f) M1 (by omega) (by omega) h0 dr (fitL M1 p11 (by decide) (by omega)) (fitF M1 p11 (by decide) (by omega)) (bd0 M1 hr) (.nil 0)
    (fun j f ls left others _ B e G zl => ec_next B e G zl)
  have len := B.len
  have len0 : (lines0 ways).length = ways.length := by simp [lines0, unitM]
  have gen := (B.el _ (el_gen (d := d) (n := ways.length) (m := ways.length) (lf_mk d ways.length)) ⟨dims0 dr, fun i hi => by
    obtain ⟨w, hw⟩ : ∃ l ∈ lines0 ways, ∀ k, k < ways.length → mk l k = un i k := ⟨_, lines0_of hi, fun k hk => unit_get hi k hk⟩
    exact ⟨_, .self hw.1, hw.2⟩⟩).2
  have made := fun k => B.el _ (lin_made d ways.length (fun t k => rowOf ways t k) k).el (made0 dr k)
  have dual : HasD d ways.length (lines ++ found) := B.el _ (el_dual d ways.length) (by
    refine ⟨(lines0 ways).map fun l => (l, mk l), by rw [List.map_map]; show lines0 ways = List.map id (lines0 ways); rw [List.map_id], fun p hp => ?_, ?_⟩
    · obtain ⟨l, hl, rfl⟩ := List.mem_map.mp hp
      refine ⟨dims0 dr l hl, ?_⟩
      obtain ⟨i, hi, h1, h2⟩ := mk0 hl
      dsimp only
      rw [dot_congr (u' := un i) (v' := mk l) h2 fun _ _ => rfl, dot_un, if_pos hi, h2 i hi]
      simp [un]
    · rw [List.pairwise_map]
      have nd : (lines0 ways).Pairwise fun a b => ∃ i j, i < j ∧ j < ways.length ∧ (∀ k, k < ways.length → mk a k = un i k) ∧ ∀ k, k < ways.length → mk b k = un j k := by
        rw [List.pairwise_iff_getElem] -- ht
        intro i j hi hj hij
        have at_ : ∀ (i : Nat) (hi : i < (lines0 ways).length), ∀ k, k < ways.length → mk ((lines0 ways)[i]) k = un i k := fun i hi k hk => by
          have hi' : i < ways.length := by omega
          have : (lines0 ways)[i] = (ways.getD i [], (List.range ways.length).map fun j => if i = j then (1 : Int) else 0) := by
            have h : (lines0 ways)[i]? = some (ways.getD i [], (List.range ways.length).map fun j => if i = j then (1 : Int) else 0) := by
              unfold lines0
              rw [List.getElem?_zip_eq_some]
              refine ⟨?_, ?_⟩
              · rw [List.getD_eq_getElem?_getD, List.getElem?_eq_getElem hi']; rfl
              · unfold unitM
                rw [List.getElem?_map, List.getElem?_range hi']
                rfl
            rw [List.getElem?_eq_getElem hi] at h
            exact Option.some.inj h
          rw [this]
          exact unit_get hi' k hk
        exact ⟨i, j, hij, by omega, at_ i hi, at_ j hj⟩
      refine nd.imp fun {a b} ⟨i, j, hij, hj, h1, h2⟩ => ?_
      dsimp only
      rw [dot_congr (u' := un i) (v' := un j) h1 h2, dot_un, if_pos (by omega), dot_congr (u' := un j) (v' := un i) h2 h1, dot_un, if_pos hj]
      unfold un
      rw [if_neg (by omega), if_neg (by omega)] -- ht
      exact ⟨rfl, rfl⟩)
  -- sizes of the makers
  have sizes : ∀ l ∈ lines ++ found, ∀ s, Sm (2 ^ 200) (val s l) := fun l hl s => by
    have a1 : aE 11 d ≤ 200 := by
      have : d = 0 ∨ d = 1 ∨ d = 2 ∨ d = 3 := by omega
      rcases this with rfl | rfl | rfl | rfl <;> decide
    have f1 : fE 11 d ≤ 200 := by
      have : d = 0 ∨ d = 1 ∨ d = 2 ∨ d = 3 := by omega
      rcases this with rfl | rfl | rfl | rfl <;> decide
    rcases List.mem_append.mp hl with hl | hl
    · exact (B.bl l hl s).mono (Int.le_trans (lb_le M1 p11 d) (pow_mono a1))
    · exact (B.bf l hl s).mono (Int.le_trans (fb_le M1 p11 d) (pow_mono f1))
  have dims : ∀ l ∈ lines ++ found, Dim d ways.length l := fun l hl => (List.mem_append.mp hl).elim (B.dl l) (B.df l)
  -- the table of all makers
  have eU : (lines ++ found).map (·.2) = lines.map (·.2) ++ found.map (·.2) := List.map_append
  have lenU : (lines.map (·.2) ++ found.map (·.2)).length = ways.length := by simp; omega
  have rowsU : ∀ r ∈ lines.map (·.2) ++ found.map (·.2), ∃ l ∈ lines ++ found, l.2 = r := fun r hr => by
    rw [← eU] at hr
    obtain ⟨l, hl, e⟩ := List.mem_map.mp hr
    exact ⟨l, hl, e⟩
  have drU : ∀ r ∈ lines.map (·.2) ++ found.map (·.2), r.length = (lines.map (·.2) ++ found.map (·.2)).length := fun r hr => by
    obtain ⟨l, hl, rfl⟩ := rowsU r hr
    rw [lenU, (dims l hl).2]
  have smU : ∀ r ∈ lines.map (·.2) ++ found.map (·.2), ∀ x ∈ r, Sm (2 ^ 200) x := fun r hr x hx => by
    obtain ⟨l, hl, rfl⟩ := rowsU r hr
    obtain ⟨k, e⟩ := mem_get hx
    rw [← e]
    exact sizes l hl (false, k)
  generalize hU : lines.map (·.2) ++ found.map (·.2) = U at *
  have M2 : (1 : Int) ≤ 2 ^ 200 := pow_pos' 200
  have genU : (∀ l ∈ lines0 U, Dim U.length U.length l) ∧ Gen U.length rw' (lines0 U) := by
    refine ⟨dims0 drU, ?_⟩
    rw [lenU]
    refine gen.over fun l hl => ?_
    obtain ⟨i, hi⟩ := List.mem_iff_getElem?.mp hl
    have h1 : U[i]? = some l.2 := by rw [← eU, List.getElem?_map, hi]; rfl
    have hil := (List.getElem?_eq_some_iff.mp h1).1
    have h2 := lines0_of hil
    have : rw' (U.getD i [], (List.range U.length).map fun j => if i = j then (1 : Int) else 0) = mk l := by
      funext k
      unfold rw' mk
      rw [List.getD_eq_getElem?_getD (l := U), h1]
      rfl
    rw [← this]
    exact .self h2
  obtain ⟨found2, lines2, B2, e2, ev2⟩ := ev_stairs (C := C) (M := 2 ^ 200) (d := U.length) (rows := U) (fun j f _ => Idn j f) M2 (by omega) (by omega) (by omega) drU
    (fitL M2 (Int.le_refl _) (by decide) (by omega)) (fitF M2 (Int.le_refl _) (by decide) (by omega)) (bd0 M2 smU) ⟨rfl, fun i e h => by simp at h⟩
    (fun j f ls left others hj B e G zl => idn_next hj B genU e G zl (B.next M2 G).1)
  have made2 := fun k => B2.el _ (lin_made U.length U.length (fun t k => rowOf U t k) k).el (made0 drU k)
  obtain ⟨ps, eps, hd1', hd2'⟩ := dual
  have lps : ps.length = ways.length := by
    have := congrArg List.length eps
    simp at this
    omega
  -- the inverse is the table of the duals
  have uAt : ∀ (i : Nat) (p : Ln × (Nat → Int)), ps[i]? = some p → U[i]? = some p.1.2 := fun i p h => by
    rw [← eU, eps, List.getElem?_map, List.getElem?_map, h]
    rfl
  have dd : ∀ (i j : Nat) (p q : Ln × (Nat → Int)), ps[i]? = some p → ps[j]? = some q → dotN ways.length (mk p.1) q.2 = un i j := fun i j p q hi hj => by
    rcases Nat.lt_trichotomy i j with h | h | h
    · have := (List.pairwise_iff_getElem.mp hd2') i j (List.getElem?_eq_some_iff.mp hi).1 (List.getElem?_eq_some_iff.mp hj).1 h
      rw [(List.getElem?_eq_some_iff.mp hi).2, (List.getElem?_eq_some_iff.mp hj).2] at this
      rw [this.1]; unfold un; rw [if_neg (by omega)]
    · subst h
      rw [hi] at hj
      cases hj
      rw [(hd1' p (List.mem_of_getElem? hi)).2]; simp [un]
    · have := (List.pairwise_iff_getElem.mp hd2') j i (List.getElem?_eq_some_iff.mp hj).1 (List.getElem?_eq_some_iff.mp hi).1 h
      rw [(List.getElem?_eq_some_iff.mp hi).2, (List.getElem?_eq_some_iff.mp hj).2] at this
      rw [this.2]; unfold un; rw [if_neg (by omega)]
  have rowU : ∀ (i : Nat) (p : Ln × (Nat → Int)), ps[i]? = some p → ∀ k, rowOf U i k = mk p.1 k := fun i p h k => by
    unfold rowOf mk
    rw [List.getD_eq_getElem?_getD (l := U), uAt i p h]
    rfl
  have psAt : ∀ i, i < ways.length → ∃ p, ps[i]? = some p := fun i hi => ⟨ps[i]'(by omega), List.getElem?_eq_getElem (by omega)⟩
  have lenF2 := e2.1
  have vIs : ∀ (i j : Nat) (v : Ln) (q : Ln × (Nat → Int)), found2[i]? = some v → ps[j]? = some q → j < ways.length → mk v j = q.2 i := fun i j v q hv hq hj => by
    have hi : i < ways.length := by have := (List.getElem?_eq_some_iff.mp hv).1; omega
    have hm : ∀ k, rw' v k = dotN U.length (mk v) (fun t => rowOf U t k) := fun k => by
      have := (made2 k v (List.mem_append_right _ (List.mem_of_getElem? hv))).2
      omega
    rw [lenU] at hm
    have s1 : dotN ways.length (fun k => dotN ways.length (mk v) (fun t => rowOf U t k)) q.2 = q.2 i := by
      rw [dot_congr (u' := un i) (v' := q.2) (fun k hk => by rw [← hm k]; exact e2.2 i v hv k (by omega)) fun _ _ => rfl, dot_un, if_pos hi]
    rw [← dot_swap] at s1
    rw [← s1]
    rw [dot_congr (u := mk v) (u' := mk v) (v' := fun t => un t j) (fun _ _ => rfl) (fun t ht => by
      obtain ⟨p, hp⟩ := psAt t ht
      rw [dot_congr (u' := mk p.1) (v' := q.2) (fun k _ => rowU t p hp k) fun _ _ => rfl]
      exact dd t j p q hp hq)]
    rw [dot_comm]
    have : dotN ways.length (fun t => un t j) (mk v) = dotN ways.length (un j) (mk v) := dot_congr (fun k _ => by unfold un; by_cases h : k = j <;> simp [h] <;> omega) fun _ _ => rfl
    rw [this, dot_un, if_pos hj]
  refine ⟨lines.map (·.2), found.map (·.2), found2.map (·.2), found, ⟨by simp; omega, by simp; omega, fun r hr => ?_, fun r hr => ?_, fun r hr => ?_, fun r hr => ?_, fun r hr => ?_, fun r hr x hx => ?_, fun i j hi hj => ?_, fun r hr k hk => ?_, e, rfl, fun l hl => (B.df l hl).1, fun l hl s => sizes l (List.mem_append_right _ hl) s, fun l hl k => ?_⟩, ⟨_, ev⟩, ?_⟩
  · obtain ⟨l, hl, rfl⟩ := List.mem_map.mp hr; exact (B.dl l hl).2
  · obtain ⟨l, hl, rfl⟩ := List.mem_map.mp hr; exact (B.df l hl).2
  · obtain ⟨l, hl, rfl⟩ := List.mem_map.mp hr; rw [(B2.df l hl).2, lenU]
  · exact smU r (by rw [← hU]; exact List.mem_append_left _ hr)
  · exact smU r (by rw [← hU]; exact List.mem_append_right _ hr)
  · obtain ⟨l, hl, rfl⟩ := List.mem_map.mp hr
    obtain ⟨k, e⟩ := mem_get hx
    rw [← e]
    exact fitF M2 (Int.le_refl _) (by decide) (show U.length ≤ 12 by omega) U.length (Nat.le_refl _) _ (B2.bf l hl (false, k))
  · obtain ⟨p, hp⟩ := psAt i hi
    obtain ⟨q, hq⟩ := psAt j hj
    rw [hU]
    rw [dot_congr (u' := mk p.1) (v' := q.2) (fun k _ => rowU i p hp k) (fun k hk => ?_)]
    · exact dd i j p q hp hq
    · obtain ⟨v, hv⟩ : ∃ v, found2[k]? = some v := ⟨found2[k]'(by omega), List.getElem?_eq_getElem (by omega)⟩
      rw [← vIs k j v q hv hq hj]
      unfold rowOf mk
      rw [List.getD_eq_getElem?_getD (l := found2.map _), List.getElem?_map, hv]
      rfl
  · obtain ⟨l, hl, rfl⟩ := List.mem_map.mp hr
    have := (made k l (List.mem_append_left _ hl)).2
    have z := B.zl l hl k hk
    have z' : rw' l k = 0 := z
    rw [z'] at this
    have e : dotN ways.length (fun t => l.2.getD t 0) (fun t => rowOf ways t k) = dotN ways.length (mk l) (fun t => rowOf ways t k) := rfl
    rw [e]
    omega
  · have := (made k l (List.mem_append_right _ hl)).2
    have e : col k l = rw' l k := rfl
    rw [e]
    omega
  · rw [hU]; exact ⟨_, _, ev2⟩
def eW (ways : List (List Int)) : D := .lst (ways.map tupI)
theorem ev_relations {C : Mem} {ways zeros makers back : List (List Int)} (h0 : 0 < ways.length) (h12 : ways.length ≤ 12) (hz : zeros.length + makers.length ≤ 100000) (h1 : ∃ rows, F_stairs [eT ways] C = some (.tup [eT rows, eT makers, eT zeros], C)) (h2 : ∃ rows rest, F_stairs [eT (zeros ++ makers)] C = some (.tup [eT rows, eT back, eT rest], C)) :
    F_relations [eW ways] C = some (.tup [eT zeros, eT makers, eT back], C) := by
  obtain ⟨rows, g1⟩ := h1
  obtain ⟨rows2, rest, g2⟩ := h2
  have copies := lc_map (vs := [5]) (fi := asL (eVar 0)) (k := gSet 5) (ef := asD (asT (eVar 5))) (ρ := rho0 N_basis_of.length [eW ways]) (C := C) (C0 := C) ways tupI eI rfl rfl (by omega) fun r hr => ⟨_, rfl, rfl⟩
  have test : bOf (e2 kEq (eVar 0) (asD (lLst aNil))) (rho0 N_basis_of.length [eW ways]) C = some (false, C) := by
    refine ev_bOf (ev_e2 (x := eW ways) rfl (ev_asD (ev_lst (ds := []) (C1 := C) rfl)) ?_)
    rw [eW, kEq_nil _ (okDs_map (fun x => ok_tupI 58 x) _), decide_eq_false (by cases ways with | nil => simp at h0 | cons a b => simp)]
  have cat : asD (lCat (asL (eVar 3)) (asL (eVar 2))) [.im (eW ways), .im (eT rows), .im (eT makers), .im (eT zeros), .no, .no] C = some (eT (zeros ++ makers), C) := by
    refine (ev_asD (ev_cat (ds := zeros.map eI) (es := makers.map eI) (C1 := C) rfl rfl (by simpa using hz))).trans ?_
    unfold eT
    rw [List.map_append]
  have basis : F_basis_of [eW ways] C = some (.tup [eT zeros, eT makers, eT back], C) :=
    ev_run ((ev_seq ((ev_ifF test).trans rfl)).trans ((ev_seq (ev_asg (ev_call (ev_cons (ev_asD copies) rfl) g1) rfl)).trans ((ev_seq (ev_set (ev_e2 (ev_call (ev_cons cat rfl) g2) rfl (ix_tup (i := 1) rfl)))).trans (ev_ret (ev_tup (C1 := C) (ev_cons rfl (ev_cons rfl (ev_cons rfl rfl))))))))
  exact ev_run (ev_ret (ev_call (ev_cons rfl rfl) basis))
end K62


set_option maxRecDepth 100000
set_option maxHeartbeats 1000000 -- ht
/-! k62: what the law's own defs say. -/
namespace K62
open PySem PySem.Spec PyProof.Rows L2 Ht Mth
theorem isi_list (ds : List D) : kIsi "list" (.lst ds) = some (.bl true) := by simp [kIsi, isiT]
theorem isi_int (i : Int) : kIsi "int" (.int i) = some (.bl true) := by simp [kIsi, isiT]
theorem isi_bool (i : Int) : kIsi "bool" (.int i) = some (.bl false) := by simp [kIsi, isiT]
theorem isi_tup (ds : List D) : kIsi "tuple" (.tup ds) = some (.bl true) := by simp [kIsi, isiT]
section
variable {ρ : Rho} {C C1 C2 : Mem} {f h : BF}
theorem ev_not {b : Bool} (h1 : f ρ C = some (b, C1)) : bNot f ρ C = some (!b, C1) := by unfold bNot; rw [h1]
theorem ev_or0 {b : Bool} (h1 : f ρ C = some (false, C1)) (h2 : h ρ C1 = some (b, C2)) : bOr f h ρ C = some (b, C2) := by unfold bOr; rw [h1]; exact h2
theorem ev_and1 {b : Bool} (h1 : f ρ C = some (true, C1)) (h2 : h ρ C1 = some (b, C2)) : bAnd f h ρ C = some (b, C2) := by unfold bAnd; rw [h1]; exact h2
theorem ev_and0 (h1 : f ρ C = some (false, C1)) : bAnd f h ρ C = some (false, C1) := by unfold bAnd; rw [h1]
end
/-! ### is it a table -/
theorem ev_is_table {C : Mem} {n : Nat} {t : List (List Int)} (hn : n ≤ 100000) (ht : t.length ≤ 100000) (h : ∀ r ∈ t, r.length = n) : F__law_is_table [eT t, .int (n : Int)] C = some (.bl true, C) := by
  obtain ⟨ρ', C', e, hC, s2, hρ⟩ := forGo_inv (k := gSet 2)
    (b := sSeq (sIf (bOr (bNot (bOf (e1 (kIsi "list") (eVar 2)))) (bOf (e2 kNe (e1 kLen (eVar 2)) (eVar 1)))) (sRet (eK (.bl false))) sNext) (sIf (bOf (e2 kNe (asD (lLc [3] (asL (eVar 2)) (gSet 3) (bOr (bNot (bOf (e1 (kIsi "int") (eVar 3)))) (bOf (e1 (kIsi "bool") (eVar 3)))) (eVar 3))) (asD (lLst aNil)))) (sRet (eK (.bl false))) sNext))
    eI (fun _ ρ C2 => C2 = C ∧ ∃ s2 : Sl, ρ = [.im (eT t), .im (.int (n : Int)), s2, .no]) t [] [.im (eT t), .im (.int (n : Int)), .no, .no] C ⟨rfl, _, rfl⟩ fun done r ρ C2 hr ⟨hC, s2, hρ⟩ => by
      subst hC hρ
      have hl := h r hr
      have ln : kLen (eI r) = some (.int (n : Int)) := by
        show some (D.int ((r.map D.int).length : Int)) = _
        rw [List.length_map, hl]
      have none_ := lc_eq (vs := [3]) (fi := asL (eVar 2)) (k := gSet 3) (tf := bOr (bNot (bOf (e1 (kIsi "int") (eVar 3)))) (bOf (e1 (kIsi "bool") (eVar 3)))) (ef := eVar 3) (ρ := [.im (eT t), .im (.int (n : Int)), .im (eI r), .no]) (C := C2) (C0 := C2) r D.int (fun _ => false) D.int rfl rfl (by omega) fun x hx => ⟨_, rfl, ev_or0 (ev_not (b := true) (ev_bOf (ev_e1 rfl (isi_int x)))) (ev_bOf (ev_e1 rfl (isi_bool x))), fun z => nomatch z⟩
      rw [List.filter_eq_nil_iff.mpr fun _ _ => by simp] at none_
      refine ⟨_, _, _, rfl, (ev_seq ((ev_ifF (ev_or0 (ev_not (b := true) (ev_bOf (ev_e1 rfl (isi_list _)))) (ev_bOf (ev_e2 (ev_e1 rfl ln) rfl (kNe_same rfl))))).trans rfl)).trans ((ev_ifF (ev_bOf (ev_e2 (ev_asD none_) (ev_asD (ev_lst (ds := []) (C1 := C2) rfl)) (kNe_nil _ rfl)))).trans rfl), rfl, _, rfl⟩
  rw [hC, hρ] at e
  exact ev_run ((ev_seq ((ev_ifF (ev_not (b := true) (ev_bOf (ev_e1 rfl (isi_list _))))).trans rfl)).trans ((ev_seq ((ev_for (ds := t.map eI) (C1 := C) rfl).trans e)).trans (ev_ret rfl)))
/-! ### places -/
theorem sum_dot (n : Nat) (u v : Nat → Int) : ((List.range n).map fun i => u i * v i).sum = dotN n u v := by
  induction n with
  | zero => rfl
  | succ n ih =>
    rw [List.range_succ, List.map_append, List.sum_append, ih]
    simp [dotN]
theorem ksum_dot (n : Nat) (u v : Nat → Int) : kSum (.lst ((List.range n).map fun i => D.int (u i * v i))) = some (.int (dotN n u v)) := by
  have e : ((List.range n).map fun i => D.int (u i * v i)) = ((List.range n).map fun i => u i * v i).map D.int := by rw [List.map_map]; rfl
  show (dInts ((List.range n).map fun i => D.int (u i * v i))).map (fun ns => D.int ns.sum) = _
  rw [e, dInts_map]
  show some (D.int _) = _
  rw [sum_dot]
theorem ix_row {t : List (List Int)} {i : Nat} (h : i < t.length) : ixD (eT t) (.int (i : Int)) = some (eI (t.getD i [])) := ix_lst (by
  rw [List.getElem?_map, List.getElem?_eq_getElem h, List.getD_eq_getElem?_getD, List.getElem?_eq_getElem h]; rfl)
theorem ix_way {t : List (List Int)} {i : Nat} (h : i < t.length) : ixD (eW t) (.int (i : Int)) = some (tupI (t.getD i [])) := ix_lst (by
  rw [List.getElem?_map, List.getElem?_eq_getElem h, List.getD_eq_getElem?_getD, List.getElem?_eq_getElem h]; rfl)
theorem ix_tupI {l : List Int} {i : Nat} (h : i < l.length) : ixD (tupI l) (.int (i : Int)) = some (.int (l.getD i 0)) := ix_tup (by rw [List.getElem?_map, getD_some h]; rfl)
theorem getD_mem {t : List (List Int)} {i : Nat} (h : i < t.length) : t.getD i [] ∈ t := by
  rw [List.getD_eq_getElem?_getD, List.getElem?_eq_getElem h]
  exact List.getElem_mem h
theorem getD_memI {l : List Int} {i : Nat} (h : i < l.length) : l.getD i 0 ∈ l := by
  rw [List.getD_eq_getElem?_getD, List.getElem?_eq_getElem h]
  exact List.getElem_mem h
def placeM (d : Nat) (ways : List (List Int)) (r : List Int) : List Int := (List.range d).map fun k => dotN ways.length (fun t => r.getD t 0) (fun t => rowOf ways t k)
theorem ev_place {C : Mem} {d : Nat} {ways : List (List Int)} {r : List Int} (hd : d ≤ 100000) (h0 : 0 < ways.length) (hn : ways.length ≤ 100000) (dr : ∀ w ∈ ways, w.length = d) (fw : ∀ w ∈ ways, ∀ x ∈ w, Fit x) (hr : r.length = ways.length) (fr : ∀ x ∈ r, Fit x) :
    F__law_place [eW ways, eI r] C = some (eI (placeM d ways r), C) := by
  have len0 : kLen (tupI (ways.getD 0 [])) = some (.int (d : Int)) := by
    show some (D.int (((ways.getD 0 []).map D.int).length : Int)) = _
    rw [List.length_map, dr _ (getD_mem h0)]
  have lenW : kLen (eW ways) = some (.int (ways.length : Int)) := by
    show some (D.int ((ways.map tupI).length : Int)) = _
    rw [List.length_map]
  have outer := lc_map (vs := [2]) (fi := lRng1 (e1 kLen (e2 ixD (eVar 0) (eK (.int 0))))) (k := gSet 2) (ef := e1 kSum (asD (lLc [3] (lRng1 (e1 kLen (eVar 0))) (gSet 3) bTrue (e2 kMul (e2 ixD (eVar 1) (eVar 3)) (e2 ixD (e2 ixD (eVar 0) (eVar 3)) (eVar 2))))))
    (ρ := rho0 N__law_place.length [eW ways, eI r]) (C := C) (C0 := C) (List.range d) (fun (i : Nat) => D.int (i : Int)) (fun k => D.int (dotN ways.length (fun t => r.getD t 0) (fun t => rowOf ways t k)))
    (ev_rng1 (ev_e1 (ev_e2 rfl rfl (ix_way (i := 0) h0)) len0) (by omega)) rfl (by simpa using hd) fun k hk => ⟨_, rfl, by
      have hk : k < d := List.mem_range.mp hk
      have inner := lc_map (vs := [3]) (fi := lRng1 (e1 kLen (eVar 0))) (k := gSet 3) (ef := e2 kMul (e2 ixD (eVar 1) (eVar 3)) (e2 ixD (e2 ixD (eVar 0) (eVar 3)) (eVar 2)))
        (ρ := [.im (eW ways), .im (eI r), .im (.int (k : Int)), .no]) (C := C) (C0 := C) (List.range ways.length) (fun (i : Nat) => D.int (i : Int)) (fun i => D.int (r.getD i 0 * rowOf ways i k))
        (ev_rng1 (ev_e1 rfl lenW) (by omega)) rfl (by simpa using hn) fun i hi => ⟨_, rfl, by
          have hi : i < ways.length := List.mem_range.mp hi
          have hw := getD_mem hi
          have hlw := dr _ hw
          exact ev_e2 (ev_e2 rfl rfl (ix_eI (by omega))) (ev_e2 (ev_e2 rfl rfl (ix_way hi)) rfl (ix_tupI (by omega))) (kMul_fit (fr _ (getD_memI (by omega))) (fw _ hw _ (getD_memI (by omega))))⟩
      exact ev_e1 (ev_asD inner) (ksum_dot _ _ _)⟩
  refine ev_run (ev_ret ((ev_asD outer).trans ?_))
  unfold placeM eI
  rw [List.map_map]
  rfl
/-! ### rank -/
theorem range_nz {d c : Nat} {p : Nat → Bool} (hc : c < d) (h0 : ∀ k, k < c → p k = false) (h1 : p c = true) : ∃ tl, (List.range d).filter p = c :: tl := by
  obtain ⟨b, rfl⟩ : ∃ b, d = c + (b + 1) := ⟨d - c - 1, by omega⟩
  rw [List.range_add, List.filter_append, List.filter_eq_nil_iff.mpr (fun k hk => by rw [h0 k (List.mem_range.mp hk)]; simp), List.range_succ_eq_map, List.map_cons, Nat.add_zero, List.filter_cons, if_pos h1]
  exact ⟨_, rfl⟩
def stepR (d c : Nat) (l e : Ln) : Ln := ((List.range d).map fun k => col k e * col c l - col k l * col c e, e.2)
theorem col_step {d c k : Nat} {l e : Ln} (hk : k < d) : col k (stepR d c l e) = col k e * col c l - col k l * col c e := by
  unfold stepR
  show ((List.range d).map fun k => col k e * col c l - col k l * col c e).getD k 0 = _
  rw [List.getD_eq_getElem?_getD, List.getElem?_map, List.getElem?_range hk]
  rfl
theorem rank_loop {C : Mem} {d : Nat} {rows : D} (hd : d ≤ 100000) : ∀ (m : Nat) (fs : List Ln) (e j : Nat) (r : Int) (s3 s4 s5 : Sl), fs.length = m → m ≤ 100000 → Ec j fs → j ≤ d → (∀ l ∈ fs, l.1.length = d) → (∀ l ∈ fs, ∀ k, Sm (2 ^ e) (col k l)) → (e + 1) * 2 ^ m < 50000000 →
    ∃ s3' s4' s5' : Sl, sWhile (bOf (e2 kNe (asD (lVar 1)) (asD (lLst aNil)))) (sSeq (sPop 1 3) (sSeq (sSet 4 (asD (lLc [7] (lRng1 (e1 kLen (eVar 3))) (gSet 7) (bOf (e2 kNe (e2 ixD (eVar 3) (eVar 7)) (eK (.int 0)))) (eVar 7)))) (sIf (bOf (e2 kNe (eVar 4) (asD (lLst aNil)))) (sSeq (sAug 2 (fun i j => i + j) (eK (.int 1))) (sSeq (sSet 5 (e2 ixD (eVar 4) (eK (.int 0)))) (sOwn 1 (lLc [6] (lVar 1) (gSet 6) bTrue (asD (lLc [7] (lRng1 (e1 kLen (eVar 6))) (gSet 7) bTrue (e2 kSub (e2 kMul (e2 ixD (eVar 6) (eVar 7)) (e2 ixD (eVar 3) (eVar 5))) (e2 kMul (e2 ixD (eVar 3) (eVar 7)) (e2 ixD (eVar 6) (eVar 5)))))))))) sNext)))
      [.im rows, .ow (fs.map fun l => eI l.1), .im (.int r), s3, s4, s5, .no, .no] C = some (.nx [.im rows, .ow [], .im (.int (r + (m : Int))), s3', s4', s5', .no, .no], C) := by
  intro m
  induction m with
  | zero =>
    intro fs e j r s3 s4 s5 hl _ _ _ _ _ _
    have : fs = [] := List.length_eq_zero_iff.mp hl
    subst this
    refine ⟨s3, s4, s5, ?_⟩
    rw [show r + ((0 : Nat) : Int) = r by omega]
    exact sWhile_false (ev_bOf (ev_e2 rfl rfl (kNe_nil _ rfl)))
  | succ m ih =>
    intro fs e j r s3 s4 s5 hl hm hE hj hdim hb he
    cases hE with
    | nil => simp at hl
    | @snoc c _ fs0 l h1 h2 h3 h4 =>
      have hlm : fs0.length = m := by simpa using hl
      have dl := hdim l (List.mem_append_right _ List.mem_cons_self)
      have bl := hb l (List.mem_append_right _ List.mem_cons_self)
      have d0 : ∀ x ∈ fs0, x.1.length = d := fun x hx => hdim x (List.mem_append_left _ hx)
      have b0 : ∀ x ∈ fs0, ∀ k, Sm (2 ^ e) (col k x) := fun x hx => hb x (List.mem_append_left _ hx)
      have hcd : c < d := by omega
      have p1 : 1 ≤ 2 ^ (m + 1) := Nat.one_le_two_pow
      have hm1 : (e + 1) * 1 ≤ (e + 1) * 2 ^ (m + 1) := Nat.mul_le_mul_left _ p1
      have fit : ∀ x, Sm (2 ^ e) x → Fit x := fun x hx => fit_pow hx (Int.le_refl _) (by omega)
      obtain ⟨tl, hf⟩ := range_nz (p := fun k => decide (l.1.getD k 0 ≠ 0)) hcd (fun k hk => decide_eq_false fun z => z (h3 k hk)) (decide_eq_true h4)
      have len3 : ∀ x : Ln, x.1.length = d → kLen (eI x.1) = some (.int (d : Int)) := fun x hx => by
        show some (D.int ((x.1.map D.int).length : Int)) = _
        rw [List.length_map, hx]
      have leads := lc_eq (vs := [7]) (fi := lRng1 (e1 kLen (eVar 3))) (k := gSet 7) (tf := bOf (e2 kNe (e2 ixD (eVar 3) (eVar 7)) (eK (.int 0)))) (ef := eVar 7) (ρ := [.im rows, .ow (fs0.map fun l => eI l.1), .im (.int r), .im (eI l.1), s4, s5, .no, .no]) (C := C) (C0 := C)
        (List.range d) (fun (i : Nat) => D.int (i : Int)) (fun k => decide (l.1.getD k 0 ≠ 0)) (fun (i : Nat) => D.int (i : Int)) (ev_rng1 (ev_e1 rfl (len3 l dl)) (by omega)) rfl (by simpa using hd) fun k hk => ⟨_, rfl, ev_bOf (ev_e2 (ev_e2 rfl rfl (ix_eI (by rw [dl]; exact List.mem_range.mp hk))) rfl (kNe_int _ _)), fun _ => rfl⟩
      rw [hf] at leads
      have rest := lc_map (vs := [6]) (fi := lVar 1) (k := gSet 6) (ef := asD (lLc [7] (lRng1 (e1 kLen (eVar 6))) (gSet 7) bTrue (e2 kSub (e2 kMul (e2 ixD (eVar 6) (eVar 7)) (e2 ixD (eVar 3) (eVar 5))) (e2 kMul (e2 ixD (eVar 3) (eVar 7)) (e2 ixD (eVar 6) (eVar 5))))))
        (ρ := [.im rows, .ow (fs0.map fun l => eI l.1), .im (.int (r + 1)), .im (eI l.1), .im (.lst ((c :: tl).map fun (i : Nat) => D.int (i : Int))), .im (.int (c : Int)), .no, .no]) (C := C) (C0 := C) fs0 (fun l => eI l.1) (fun x => eI (stepR d c l x).1) rfl rfl (by omega) fun x hx => ⟨_, rfl, by
          have dx := d0 x hx
          have inner := lc_map (vs := [7]) (fi := lRng1 (e1 kLen (eVar 6))) (k := gSet 7) (ef := e2 kSub (e2 kMul (e2 ixD (eVar 6) (eVar 7)) (e2 ixD (eVar 3) (eVar 5))) (e2 kMul (e2 ixD (eVar 3) (eVar 7)) (e2 ixD (eVar 6) (eVar 5))))
            (ρ := [.im rows, .ow (fs0.map fun l => eI l.1), .im (.int (r + 1)), .im (eI l.1), .im (.lst ((c :: tl).map fun (i : Nat) => D.int (i : Int))), .im (.int (c : Int)), .im (eI x.1), .no]) (C := C) (C0 := C) (List.range d) (fun (i : Nat) => D.int (i : Int)) (fun k => D.int (col k x * col c l - col k l * col c x))
            (ev_rng1 (ev_e1 rfl (len3 x dx)) (by omega)) rfl (by simpa using hd) fun k hk => ⟨_, rfl, by
              have hk : k < d := List.mem_range.mp hk
              exact ev_e2 (ev_e2 (ev_e2 rfl rfl (ix_eI (by omega))) (ev_e2 rfl rfl (ix_eI (by omega))) (kMul_fit (fit _ (b0 x hx k)) (fit _ (bl c)))) (ev_e2 (ev_e2 rfl rfl (ix_eI (by omega))) (ev_e2 rfl rfl (ix_eI (by omega))) (kMul_fit (fit _ (bl k)) (fit _ (b0 x hx c)))) rfl⟩
          refine (ev_asD inner).trans ?_
          unfold stepR eI
          rw [List.map_map]
          rfl⟩
      have pop : sPop 1 3 [.im rows, .ow ((fs0 ++ [l]).map fun l => eI l.1), .im (.int r), s3, s4, s5, .no, .no] C = some (.nx [.im rows, .ow (fs0.map fun l => eI l.1), .im (.int r), .im (eI l.1), s4, s5, .no, .no], C) := by
        unfold sPop
        simp
      have E' : Ec c (fs0.map (stepR d c l)) := h1.map _ fun x hx k hk => by
        rw [col_step (by omega), h3 k hk]
        constructor
        · intro z
          have z : col k x * col c l = 0 := by simpa using z
          rcases Int.mul_eq_zero.mp z with z | z
          · exact z
          · exact absurd z h4
        · intro z
          rw [z]; simp
      have pe : (2 : Int) ^ (2 * e + 1) = 2 * (2 ^ e * 2 ^ e) := by rw [Int.pow_add, Nat.two_mul, Int.pow_add]; grind
      obtain ⟨s3', s4', s5', w⟩ := ih (fs0.map (stepR d c l)) (2 * e + 1) c (r + 1) (.im (eI l.1)) (.im (.lst ((c :: tl).map fun (i : Nat) => D.int (i : Int)))) (.im (.int (c : Int))) (by simpa using hlm) (by omega) E' (by omega) (fun x hx => by
        obtain ⟨y, hy, rfl⟩ := List.mem_map.mp hx -- ht
        simp [stepR]) (fun x hx k => by
        obtain ⟨y, hy, rfl⟩ := List.mem_map.mp hx -- ht
        by_cases hk : k < d
        · rw [col_step hk, pe]
          exact sm_sub' (sm_mul (b0 y hy k) (bl c)) (sm_mul (bl k) (b0 y hy c))
        · have : col k (stepR d c l y) = 0 := by
            unfold col stepR
            rw [List.getD_eq_getElem?_getD, List.getElem?_eq_none (by simp; omega)]
            rfl
          rw [this]
          have := pow_pos' (2 * e + 1)
          exact ⟨by omega, by omega⟩) (by
        have : (2 * e + 1 + 1) * 2 ^ m = (e + 1) * 2 ^ (m + 1) := by rw [Nat.pow_succ]; grind
        omega)
      refine ⟨s3', s4', s5', sWhile_next (C1 := C) (C2 := C) (ρ1 := [.im rows, .ow ((fs0.map (stepR d c l)).map fun l => eI l.1), .im (.int (r + 1)), .im (eI l.1), .im (.lst ((c :: tl).map fun (i : Nat) => D.int (i : Int))), .im (.int (c : Int)), .no, .no]) (ev_bOf (ev_e2 (x := .lst ((fs0 ++ [l]).map fun l => eI l.1)) rfl rfl ?_)) ?_ ?_⟩
      · rw [kNe_nil _ (okDs_map (f := fun l : Ln => eI l.1) (fun x => ok_eI 58 x.1) _)]
        simp
      · refine (ev_seq pop).trans ((ev_seq (ev_set (ev_asD leads))).trans ((ev_ifT (ev_bOf (ev_e2 (x := .lst ((c :: tl).map fun (i : Nat) => D.int (i : Int))) rfl rfl ?_))).trans ((ev_seq rfl).trans ((ev_seq (ev_set (ev_e2 rfl rfl (ix_lst (i := 0) rfl)))).trans ((ev_own rest).trans ?_)))))
        · rw [kNe_nil _ (okDs_map (f := fun (i : Nat) => D.int (i : Int)) (fun x => by simp [okD]) _)]
          simp
        · rw [List.map_map]
          rfl
      · rw [show r + ((m + 1 : Nat) : Int) = r + 1 + (m : Int) by omega]
        exact w
theorem ev_rank {C : Mem} {d e j : Nat} {fs : List Ln} (hd : d ≤ 100000) (hm : fs.length ≤ 100000) (hE : Ec j fs) (hj : j ≤ d) (hdim : ∀ l ∈ fs, l.1.length = d) (hb : ∀ l ∈ fs, ∀ k, Sm (2 ^ e) (col k l)) (he : (e + 1) * 2 ^ fs.length < 50000000) :
    F__law_rank [eT (fs.map (·.1))] C = some (.int (fs.length : Int), C) := by
  have copies := lc_map (vs := [6]) (fi := asL (eVar 0)) (k := gSet 6) (ef := asD (asL (eVar 6))) (ρ := rho0 N__law_rank.length [eT (fs.map (·.1))]) (C := C) (C0 := C) (fs.map (·.1)) eI eI rfl rfl (by simpa using hm) fun r hr => ⟨_, rfl, rfl⟩
  rw [List.map_map] at copies
  obtain ⟨s3, s4, s5, w⟩ := rank_loop (C := C) (rows := eT (fs.map (·.1))) hd fs.length fs e j 0 .no .no .no rfl hm hE hj hdim hb he
  rw [Int.zero_add] at w
  exact ev_run ((ev_seq (ev_own copies)).trans ((ev_seq (ev_set rfl)).trans ((ev_seq w).trans (ev_ret rfl))))
/-! ### is it a basis -/
theorem len_eT (t : List (List Int)) : kLen (eT t) = some (.int (t.length : Int)) := by
  show some (D.int ((t.map eI).length : Int)) = _
  rw [List.length_map]
theorem len_eW (t : List (List Int)) : kLen (eW t) = some (.int (t.length : Int)) := by
  show some (D.int ((t.map tupI).length : Int)) = _
  rw [List.length_map]
theorem int_eq (i j : Nat) : (match (some (D.bl (decide ((i : Int) = (j : Int)))) : Option D) with | some x => kInt x | none => none) = some (.int (un i j)) := by
  unfold un
  by_cases h : i = j
  · subst h; simp [kInt]
  · have : ¬ (i : Int) = (j : Int) := by omega
    simp [kInt, h, this]
theorem place_found {d : Nat} {ways zeros makers back : List (List Int)} {found : List Ln} (B : Basis d ways zeros makers back found) (l : Ln) (hl : l ∈ found) : placeM d ways l.2 = l.1 := by
  refine List.ext_getElem? fun k => ?_ -- ht
  unfold placeM
  rw [List.getElem?_map]
  have hd := B.fd l hl
  by_cases hk : k < d
  · rw [List.getElem?_range hk, getD_some (by omega)]
    show some (dotN ways.length (mk l) fun t => rowOf ways t k) = some (col k l)
    rw [B.made l hl k]
  · rw [List.getElem?_eq_none (by simp; omega), List.getElem?_eq_none (by omega)]
    rfl
theorem ev_is_basis {C : Mem} {d : Nat} {ways zeros makers back : List (List Int)} {found : List Ln} (hd : d ≤ 3) (h0 : 0 < ways.length) (hn : ways.length ≤ 12) (dr : ∀ w ∈ ways, w.length = d) (fw : ∀ w ∈ ways, ∀ x ∈ w, Fit x) (B : Basis d ways zeros makers back found) :
    F__law_is_basis [eW ways, eT zeros, eT makers, eT back] C = some (.bl true, C) := by
  have nz := B.nz
  have nb := B.nb
  have f200 : ∀ x, Sm (2 ^ 200) x → Fit x := fun x hx => fit_pow hx (Int.le_refl _) (by decide)
  have hz : ∀ r ∈ zeros, ∀ x ∈ r, Fit x := fun r hr x hx => f200 x (B.fitZ r hr x hx)
  have hm : ∀ r ∈ makers, ∀ x ∈ r, Fit x := fun r hr x hx => f200 x (B.fitM r hr x hx)
  generalize hst : (fun s6 s7 s8 : Sl => ([.im (eW ways), .im (eT zeros), .im (eT makers), .im (eT back), .im (.int (ways.length : Int)), .im (eT (zeros ++ makers)), s6, s7, s8, .no, .no] : Rho)) = st
  have tab : ∀ (t : List (List Int)) (i : Nat) (ρ : Rho), ρ[i]? = some (.im (eT t)) → ρ[4]? = some (.im (.int (ways.length : Int))) → t.length ≤ 100000 → (∀ r ∈ t, r.length = ways.length) → bNot (bOf (eCallN 2 F__law_is_table (aCons (eVar i) (aCons (eVar 4) aNil)))) ρ C = some (false, C) := fun t i ρ w1 w2 w3 w4 =>
    ev_not (b := true) (ev_bOf (ev_call (ev_cons (d := eT t) (C1 := C) (by unfold eVar; rw [w1]) (ev_cons (d := .int (ways.length : Int)) (C1 := C) (by unfold eVar; rw [w2]) rfl)) (ev_is_table (by omega) w3 w4)))
  have t1 : (bOr (bNot (bOf (eCallN 2 F__law_is_table (aCons (eVar 1) (aCons (eVar 4) aNil))))) (bOr (bNot (bOf (eCallN 2 F__law_is_table (aCons (eVar 2) (aCons (eVar 4) aNil))))) (bNot (bOf (eCallN 2 F__law_is_table (aCons (eVar 3) (aCons (eVar 4) aNil)))))))
      [.im (eW ways), .im (eT zeros), .im (eT makers), .im (eT back), .im (.int (ways.length : Int)), .no, .no, .no, .no, .no, .no] C = some (false, C) :=
    ev_or0 (tab zeros 1 _ rfl rfl (by omega) B.rowsZ) (ev_or0 (tab makers 2 _ rfl rfl (by omega) B.rowsM) (tab back 3 _ rfl rfl (by omega) B.rowsB))
  have t2 : (bOr (bOf (e2 kNe (e2 kAdd (e1 kLen (eVar 1)) (e1 kLen (eVar 2))) (eVar 4))) (bOf (e2 kNe (e1 kLen (eVar 3)) (eVar 4)))) [.im (eW ways), .im (eT zeros), .im (eT makers), .im (eT back), .im (.int (ways.length : Int)), .no, .no, .no, .no, .no, .no] C = some (false, C) := by
    have e : (zeros.length : Int) + (makers.length : Int) = (ways.length : Int) := by omega
    have e' : (back.length : Int) = (ways.length : Int) := by omega
    refine ev_or0 (ev_bOf (ev_e2 (x := .int (ways.length : Int)) (C1 := C) (ev_e2 (ev_e1 rfl (len_eT zeros)) (ev_e1 rfl (len_eT makers)) (by rw [← e]; rfl)) rfl (kNe_same rfl))) (ev_bOf (ev_e2 (x := .int (ways.length : Int)) (C1 := C) (ev_e1 rfl (by rw [len_eT, e'])) rfl (kNe_same rfl)))
  have t3 : asD (lCat (asL (eVar 1)) (asL (eVar 2))) [.im (eW ways), .im (eT zeros), .im (eT makers), .im (eT back), .im (.int (ways.length : Int)), .no, .no, .no, .no, .no, .no] C = some (eT (zeros ++ makers), C) := by
    refine (ev_asD (ev_cat (ds := zeros.map eI) (es := makers.map eI) (C1 := C) rfl rfl (by simp; omega))).trans ?_
    unfold eT
    rw [List.map_append]
  have lenU : (zeros ++ makers).length = ways.length := by rw [List.length_append]; exact nz
  have rowU : ∀ i, i < ways.length → ((zeros ++ makers).getD i []).length = ways.length ∧ ∀ x ∈ (zeros ++ makers).getD i [], Fit x := fun i hi => by
    have hmem := getD_mem (t := zeros ++ makers) (i := i) (by omega)
    rcases List.mem_append.mp hmem with h | h
    · exact ⟨B.rowsZ _ h, hz _ h⟩
    · exact ⟨B.rowsM _ h, hm _ h⟩
  have rowB : ∀ i, i < ways.length → (back.getD i []).length = ways.length ∧ ∀ x ∈ back.getD i [], Fit x := fun i hi => by
    have hmem := getD_mem (t := back) (i := i) (by omega)
    exact ⟨B.rowsB _ hmem, B.fitB _ hmem⟩
  -- the product
  have t4 : ∃ s6 s7 : Sl, sFor (lRng1 (eVar 4)) (gSet 6) (sFor (lRng1 (eVar 4)) (gSet 7) (sIf (bOf (e2 kNe (e1 kSum (asD (lLc [10] (lRng1 (eVar 4)) (gSet 10) bTrue (e2 kMul (e2 ixD (e2 ixD (eVar 5) (eVar 6)) (eVar 10)) (e2 ixD (e2 ixD (eVar 3) (eVar 10)) (eVar 7)))))) (e1 kInt (e2 kEq (eVar 6) (eVar 7))))) (sRet (eK (.bl false))) sNext)) (st .no .no .no) C = some (.nx (st s6 s7 .no), C) := by
    subst hst
    obtain ⟨ρ', C', e, hC, s6, s7, hρ⟩ := forGo_inv (k := gSet 6) (b := (sFor (lRng1 (eVar 4)) (gSet 7) (sIf (bOf (e2 kNe (e1 kSum (asD (lLc [10] (lRng1 (eVar 4)) (gSet 10) bTrue (e2 kMul (e2 ixD (e2 ixD (eVar 5) (eVar 6)) (eVar 10)) (e2 ixD (e2 ixD (eVar 3) (eVar 10)) (eVar 7)))))) (e1 kInt (e2 kEq (eVar 6) (eVar 7))))) (sRet (eK (.bl false))) sNext)))
      (fun (i : Nat) => D.int (i : Int)) (fun _ ρ C2 => C2 = C ∧ ∃ s6 s7 : Sl, ρ = [.im (eW ways), .im (eT zeros), .im (eT makers), .im (eT back), .im (.int (ways.length : Int)), .im (eT (zeros ++ makers)), s6, s7, .no, .no, .no]) (List.range ways.length) [] _ C ⟨rfl, .no, .no, rfl⟩ fun done i ρ C2 hi ⟨hC, s6, s7, hρ⟩ => by
        subst hC hρ
        have hi : i < ways.length := List.mem_range.mp hi
        obtain ⟨ρ', C', e, hC, s7', hρ⟩ := forGo_inv (k := gSet 7) (b := (sIf (bOf (e2 kNe (e1 kSum (asD (lLc [10] (lRng1 (eVar 4)) (gSet 10) bTrue (e2 kMul (e2 ixD (e2 ixD (eVar 5) (eVar 6)) (eVar 10)) (e2 ixD (e2 ixD (eVar 3) (eVar 10)) (eVar 7)))))) (e1 kInt (e2 kEq (eVar 6) (eVar 7))))) (sRet (eK (.bl false))) sNext))
          (fun (i : Nat) => D.int (i : Int)) (fun _ ρ C3 => C3 = C2 ∧ ∃ s7 : Sl, ρ = [.im (eW ways), .im (eT zeros), .im (eT makers), .im (eT back), .im (.int (ways.length : Int)), .im (eT (zeros ++ makers)), .im (.int (i : Int)), s7, .no, .no, .no]) (List.range ways.length) []
          [.im (eW ways), .im (eT zeros), .im (eT makers), .im (eT back), .im (.int (ways.length : Int)), .im (eT (zeros ++ makers)), .im (.int (i : Int)), s7, .no, .no, .no] C2 ⟨rfl, s7, rfl⟩ fun done j ρ C3 hj ⟨hC, s7, hρ⟩ => by
            subst hC hρ
            have hj : j < ways.length := List.mem_range.mp hj
            have inner := lc_map (vs := [10]) (fi := lRng1 (eVar 4)) (k := gSet 10) (ef := e2 kMul (e2 ixD (e2 ixD (eVar 5) (eVar 6)) (eVar 10)) (e2 ixD (e2 ixD (eVar 3) (eVar 10)) (eVar 7)))
              (ρ := [.im (eW ways), .im (eT zeros), .im (eT makers), .im (eT back), .im (.int (ways.length : Int)), .im (eT (zeros ++ makers)), .im (.int (i : Int)), .im (.int (j : Int)), .no, .no, .no]) (C := C3) (C0 := C3) (List.range ways.length) (fun (i : Nat) => D.int (i : Int)) (fun k => D.int (rowOf (zeros ++ makers) i k * rowOf back k j))
              (ev_rng1 rfl (by omega)) rfl (by simp; omega) fun k hk => ⟨_, rfl, by
                have hk : k < ways.length := List.mem_range.mp hk
                obtain ⟨a1, a2⟩ := rowU i hi
                obtain ⟨b1, b2⟩ := rowB k hk
                exact ev_e2 (ev_e2 (ev_e2 rfl rfl (ix_row (by omega))) rfl (ix_eI (by omega))) (ev_e2 (ev_e2 rfl rfl (ix_row (by omega))) rfl (ix_eI (by omega))) (kMul_fit (a2 _ (getD_memI (by omega))) (b2 _ (getD_memI (by omega))))⟩
            have v := B.inv i j hi hj
            have sum := ev_e1 (k := kSum) (ev_asD inner) (ksum_dot _ _ _)
            rw [v] at sum
            have eq : e1 kInt (e2 kEq (eVar 6) (eVar 7)) [.im (eW ways), .im (eT zeros), .im (eT makers), .im (eT back), .im (.int (ways.length : Int)), .im (eT (zeros ++ makers)), .im (.int (i : Int)), .im (.int (j : Int)), .no, .no, .no] C3 = some (.int (un i j), C3) :=
              ev_e1 (ev_e2 rfl rfl (kEq_int _ _)) (int_eq i j)
            exact ⟨_, _, _, rfl, (ev_ifF (ev_bOf (ev_e2 sum eq (kNe_same rfl)))).trans rfl, rfl, _, rfl⟩
        rw [hC, hρ] at e
        exact ⟨_, _, _, rfl, (ev_for (ev_rng1 rfl (by omega))).trans e, rfl, _, _, rfl⟩
    rw [hC, hρ] at e
    exact ⟨s6, s7, (ev_for (ev_rng1 rfl (by omega))).trans e⟩
  obtain ⟨s6, s7, t4⟩ := t4
  -- the places of the rows
  have t5 : ∃ s8 : Sl, noOw [s8] [0] = true ∧ sFor (asL (eVar 1)) (gSet 8) (sIf (bOf (e2 kNe (asD (lLc [9] (asL (eCallN 2 F__law_place (aCons (eVar 0) (aCons (eVar 8) aNil)))) (gSet 9) (bOf (e2 kNe (eVar 9) (eK (.int 0)))) (eVar 9))) (asD (lLst aNil)))) (sRet (eK (.bl false))) sNext) (st s6 s7 .no) C = some (.nx (st s6 s7 s8), C) := by
    subst hst
    obtain ⟨ρ', C', e, hC, s8, h8, hρ⟩ := forGo_inv (k := gSet 8) (b := (sIf (bOf (e2 kNe (asD (lLc [9] (asL (eCallN 2 F__law_place (aCons (eVar 0) (aCons (eVar 8) aNil)))) (gSet 9) (bOf (e2 kNe (eVar 9) (eK (.int 0)))) (eVar 9))) (asD (lLst aNil)))) (sRet (eK (.bl false))) sNext))
      eI (fun _ ρ C2 => C2 = C ∧ ∃ s8 : Sl, noOw [s8] [0] = true ∧ ρ = [.im (eW ways), .im (eT zeros), .im (eT makers), .im (eT back), .im (.int (ways.length : Int)), .im (eT (zeros ++ makers)), s6, s7, s8, .no, .no]) zeros [] _ C ⟨rfl, .no, rfl, rfl⟩ fun done r ρ C2 hr ⟨hC, s8, _, hρ⟩ => by
        subst hC hρ
        have pl := ev_place (C := C2) (d := d) (by omega) h0 (by omega) dr fw (B.rowsZ r hr) (hz r hr)
        have none_ := lc_eq (vs := [9]) (fi := asL (eCallN 2 F__law_place (aCons (eVar 0) (aCons (eVar 8) aNil)))) (k := gSet 9) (tf := bOf (e2 kNe (eVar 9) (eK (.int 0)))) (ef := eVar 9)
          (ρ := [.im (eW ways), .im (eT zeros), .im (eT makers), .im (eT back), .im (.int (ways.length : Int)), .im (eT (zeros ++ makers)), s6, s7, .im (eI r), .no, .no]) (C := C2) (C0 := C2) (placeM d ways r) D.int (fun x => decide (x ≠ 0)) D.int
          (ev_asL (ev_call (ev_cons rfl (ev_cons rfl rfl)) pl)) rfl (by simp [placeM]; omega) fun x hx => ⟨_, rfl, ev_bOf (ev_e2 rfl rfl (kNe_int _ _)), fun _ => rfl⟩
        rw [List.filter_eq_nil_iff.mpr fun x hx => by
          obtain ⟨k, hk, e⟩ := List.mem_map.mp hx
          have := B.zero r hr k (List.mem_range.mp hk)
          rw [this] at e
          simp [← e]] at none_
        exact ⟨_, _, _, rfl, (ev_ifF (ev_bOf (ev_e2 (ev_asD none_) (ev_asD (ev_lst (ds := []) (C1 := C2) rfl)) (kNe_nil _ rfl)))).trans rfl, rfl, _, rfl, rfl⟩
    rw [hC, hρ] at e
    exact ⟨s8, h8, (ev_for (ds := zeros.map eI) (C1 := C) rfl).trans e⟩
  obtain ⟨s8, h8, t5⟩ := t5
  -- the rank of the others' places
  have t6 : e2 kEq (eCallN 1 F__law_rank (aCons (asD (lLc [8] (asL (eVar 2)) (gSet 8) bTrue (eCallN 2 F__law_place (aCons (eVar 0) (aCons (eVar 8) aNil))))) aNil)) (e1 kLen (eVar 2)) (st s6 s7 s8) C = some (.bl true, C) := by
    subst hst
    have pls := lc_map (vs := [8]) (fi := asL (eVar 2)) (k := gSet 8) (ef := eCallN 2 F__law_place (aCons (eVar 0) (aCons (eVar 8) aNil))) (ρ := [.im (eW ways), .im (eT zeros), .im (eT makers), .im (eT back), .im (.int (ways.length : Int)), .im (eT (zeros ++ makers)), s6, s7, s8, .no, .no]) (C := C) (C0 := C)
      found (fun l => eI l.2) (fun l => eI l.1) (by
        refine (ev_asL (ds := makers.map eI) rfl).trans ?_
        rw [B.mks, List.map_map]
        rfl) h8 (by have := congrArg List.length B.mks; rw [List.length_map] at this; omega) fun l hl => ⟨_, rfl, by
          have hmem : l.2 ∈ makers := by rw [B.mks]; exact List.mem_map.mpr ⟨l, hl, rfl⟩
          have pl := ev_place (C := C) (d := d) (by omega) h0 (by omega) dr fw (B.rowsM _ hmem) (hm _ hmem)
          rw [place_found B l hl] at pl
          exact ev_call (ev_cons rfl (ev_cons rfl rfl)) pl⟩
    have lm : found.length = makers.length := by have := congrArg List.length B.mks; rw [List.length_map] at this; omega
    have rk := ev_rank (C := C) (d := d) (e := 200) (j := d) (fs := found) (by omega) (by omega) B.ec (Nat.le_refl _) B.fd (fun l hl k => B.fb l hl (true, k)) (by
      have := B.ec.few
      have : (201 : Nat) * 2 ^ found.length ≤ 201 * 2 ^ 3 := Nat.mul_le_mul_left _ (Nat.pow_le_pow_right (by decide) (by omega))
      omega)
    have pls' : asD (lLc [8] (asL (eVar 2)) (gSet 8) bTrue (eCallN 2 F__law_place (aCons (eVar 0) (aCons (eVar 8) aNil)))) [.im (eW ways), .im (eT zeros), .im (eT makers), .im (eT back), .im (.int (ways.length : Int)), .im (eT (zeros ++ makers)), s6, s7, s8, .no, .no] C = some (eT (found.map (·.1)), C) := by
      refine (ev_asD pls).trans ?_
      unfold eT
      rw [List.map_map]
      rfl
    refine ev_e2 (ev_call (ev_cons pls' rfl) rk) (ev_e1 rfl (len_eT makers)) ?_
    rw [lm, kEq_int, decide_eq_true rfl]
  subst hst
  exact ev_run ((ev_seq (ev_set (ev_e1 rfl (len_eW ways)))).trans ((ev_seq ((ev_ifF t1).trans rfl)).trans ((ev_seq ((ev_ifF t2).trans rfl)).trans ((ev_seq (ev_set t3)).trans ((ev_seq t4).trans ((ev_seq t5).trans (ev_ret t6)))))))
end K62


set_option maxRecDepth 100000
set_option maxHeartbeats 1000000 -- ht
/-! k62: the pen, the drawn steps, the law. -/
namespace K62
open PySem PySem.Spec PyProof.Rows L2 Ht Mth
def penC (ns : List Int) (a : Nat) (st : Int) : Mem := [.lst [.lst (ns.map .int), .int (a : Int), .int st]]
theorem ev_setM {ρ : Rho} {C C1 C2 : Mem} {i m j : Nat} {k : Int} {d : D} {ds : List D} {f h : EF} (h1 : f ρ C = some (d, C1)) (h2 : ρ[i]? = some (.im (.mu m))) (h3 : h ρ C1 = some (.int k, C2)) (h4 : C2[m]? = some (.lst ds)) (h5 : ixN ds.length k = some j) : sSetM i h f ρ C = some (.nx ρ, C2.set m (.lst (ds.set j d))) := by
  unfold sSetM
  rw [h1]
  dsimp only
  rw [h2]
  dsimp only
  rw [h3]
  dsimp only
  rw [h4]
  dsimp only
  rw [h5]
theorem kMul_small {i j : Int} (h : i.natAbs < 2 ^ 64) : kMul (.int i) (.int j) = some (.int (i * j)) := by
  show (if mulFit i j = true then some (D.int (i * j)) else none) = _
  rw [if_pos (show mulFit i j = true from decide_eq_true (.inl h))]
theorem kPow_small {i j : Int} (h : 0 ≤ j ∧ j ≤ 1000000 ∧ i.natAbs < 2 ^ 64) : kPow (.int i) (.int j) = some (.int (i ^ j.toNat)) := by
  show (if powFit i j = true then some (D.int (i ^ j.toNat)) else none) = _
  rw [if_pos (show powFit i j = true from decide_eq_true h)]
theorem fm_rng {x : Int} {m : Nat} (hm : 1 ≤ m) : 0 ≤ x.fmod (m : Int) ∧ x.fmod (m : Int) < (m : Int) := ⟨Int.fmod_nonneg_of_pos x (by omega), Int.fmod_lt_of_pos x (by omega)⟩
theorem mul_nat_le {a b c d : Nat} (h1 : a ≤ c) (h2 : b ≤ d) : ((a : Int) * (b : Int)).natAbs ≤ c * d := by
  have : ((a : Int) * (b : Int)) = ((a * b : Nat) : Int) := by simp
  rw [this, Int.natAbs_natCast]
  exact Nat.mul_le_mul h1 h2
theorem ev_draw {ns : List Int} {a many : Nat} {st : Int} (hn : ns.length ≤ 63) (ha : a ≤ 100000) (hs : 0 ≤ st) (hm : 1 ≤ many) : ∃ (r : Int) (a' : Nat) (st' : Int), F__law_draw [.mu 0, .int (many : Int)] (penC ns a st) = some (.int r, penC ns a' st') ∧ 0 ≤ r ∧ r < (many : Int) ∧ a' ≤ a + 1 ∧ 0 ≤ st' := by
  have hm0 : (many : Int) ≠ 0 := by omega
  have t1 : (bOf (e2 (kCmp fun i j => decide (j < i)) (eIxM (eVar 0) (eK (.int 2))) (eK (.int 0)))) (rho0 N__law_draw.length [.mu 0, .int (many : Int)]) (penC ns a st) = some (decide (0 < st), penC ns a st) := ev_bOf (ev_e2 rfl rfl rfl)
  by_cases h : 0 < st
  · rw [decide_eq_true h] at t1
    obtain ⟨r1, r2⟩ := fm_rng (x := st) hm
    have pen2 : sSetM 0 (eK (.int 2)) (e2 kDiv (eIxM (eVar 0) (eK (.int 2))) (eVar 1)) [.im (.mu 0), .im (.int (many : Int)), .im (.int (st.fmod (many : Int))), .no, .no, .no, .no] (penC ns a st) = some (.nx [.im (.mu 0), .im (.int (many : Int)), .im (.int (st.fmod (many : Int))), .no, .no, .no, .no], penC ns a (st.fdiv (many : Int))) :=
      ev_setM (m := 0) (j := 2) (C2 := penC ns a st) (ev_e2 (x := .int st) (C1 := penC ns a st) rfl rfl (kDiv_ne hm0)) rfl rfl rfl rfl
    have md : e2 kMod (e1 kInt (eIxM (eVar 0) (eK (.int 2)))) (eVar 1) (rho0 N__law_draw.length [.mu 0, .int (many : Int)]) (penC ns a st) = some (.int (st.fmod (many : Int)), penC ns a st) := ev_e2 (x := .int st) (C1 := penC ns a st) (ev_e1 rfl rfl) rfl (kMod_ne hm0)
    have ev : F__law_draw [.mu 0, .int (many : Int)] (penC ns a st) = some (.int (st.fmod (many : Int)), penC ns a (st.fdiv (many : Int))) := ev_run (ev_seqR ((ev_ifT t1).trans ((ev_seq (ev_set md)).trans ((ev_seq pen2).trans (ev_ret rfl)))))
    exact ⟨st.fmod (many : Int), a, st.fdiv (many : Int), ev, r1, r2, by omega, Int.fdiv_nonneg hs (by omega)⟩
  · rw [decide_eq_false h] at t1
    have st0 : st = 0 := by omega
    subst st0
    have c60 : kMul (.int 60107) (.int (a : Int)) = some (.int (60107 * (a : Int))) := kMul_small (by decide)
    -- the cell
    have cellS : ∃ cell : Int, sIf (bOf (e2 kNe (eIxM (eVar 0) (eK (.int 0))) (asD (lLst aNil)))) (sSet 4 (e2 ixD (eIxM (eVar 0) (eK (.int 0))) (e2 kMod (e1 kInt (eVar 3)) (e1 kLen (eIxM (eVar 0) (eK (.int 0))))))) sNext
        [.im (.mu 0), .im (.int (many : Int)), .no, .im (.int (a : Int)), .im (.int (60107 * (a : Int) + 271)), .no, .no] (penC ns (a + 1) 0) = some (.nx [.im (.mu 0), .im (.int (many : Int)), .no, .im (.int (a : Int)), .im (.int cell), .no, .no], penC ns (a + 1) 0) := by
      have t : (bOf (e2 kNe (eIxM (eVar 0) (eK (.int 0))) (asD (lLst aNil)))) [.im (.mu 0), .im (.int (many : Int)), .no, .im (.int (a : Int)), .im (.int (60107 * (a : Int) + 271)), .no, .no] (penC ns (a + 1) 0) = some (decide (ns.map D.int ≠ []), penC ns (a + 1) 0) :=
        ev_bOf (ev_e2 (x := .lst (ns.map .int)) (C1 := penC ns (a + 1) 0) rfl (ev_asD (ev_lst (ds := []) (C1 := penC ns (a + 1) 0) rfl)) (kNe_nil _ (ok_ints 59 ns)))
      by_cases hz : ns = []
      · subst hz
        exact ⟨_, (ev_ifF t).trans rfl⟩
      · have hp : 0 < ns.length := List.length_pos_iff.mpr hz
        rw [decide_eq_true (by simpa using hz)] at t
        have hlt : a % ns.length < ns.length := Nat.mod_lt _ hp
        have ln : kLen (.lst (ns.map D.int)) = some (.int (ns.length : Int)) := by
          show some (D.int ((ns.map D.int).length : Int)) = _
          rw [List.length_map]
        have md : kMod (.int (a : Int)) (.int (ns.length : Int)) = some (.int ((a % ns.length : Nat) : Int)) := by
          rw [kMod_ne (by omega), Int.fmod_eq_emod_of_nonneg _ (by omega)]
          rfl
        exact ⟨ns.getD (a % ns.length) 0, (ev_ifT t).trans (ev_set (ev_e2 (x := eI ns) (C1 := penC ns (a + 1) 0) rfl (ev_e2 (x := .int (a : Int)) (ev_e1 rfl rfl) (ev_e1 (x := .lst (ns.map .int)) rfl ln) md) (ix_eI hlt)))⟩
    obtain ⟨cell, cellS⟩ := cellS
    have pen1 : sSetM 0 (eK (.int 1)) (e2 kAdd (eVar 3) (eK (.int 1))) [.im (.mu 0), .im (.int (many : Int)), .no, .im (.int (a : Int)), .no, .no, .no] (penC ns a 0) = some (.nx [.im (.mu 0), .im (.int (many : Int)), .no, .im (.int (a : Int)), .no, .no, .no], penC ns (a + 1) 0) :=
      ev_setM (m := 0) (j := 1) (C2 := penC ns a 0) (d := .int ((a + 1 : Nat) : Int)) (ev_e2 rfl rfl (by rw [show ((a + 1 : Nat) : Int) = (a : Int) + 1 by omega]; rfl)) rfl rfl rfl rfl
    have start : ∀ (r : Option (Out × Mem)) (s : SF), s [.im (.mu 0), .im (.int (many : Int)), .no, .im (.int (a : Int)), .im (.int cell), .no, .no] (penC ns (a + 1) 0) = r →
        sSeq (sIf (bOf (e2 (kCmp fun i j => decide (j < i)) (eIxM (eVar 0) (eK (.int 2))) (eK (.int 0)))) (sSeq (sSet 2 (e2 kMod (e1 kInt (eIxM (eVar 0) (eK (.int 2)))) (eVar 1))) (sSeq (sSetM 0 (eK (.int 2)) (e2 kDiv (eIxM (eVar 0) (eK (.int 2))) (eVar 1))) (sRet (eVar 2)))) sNext) (sSeq (sSet 3 (eIxM (eVar 0) (eK (.int 1)))) (sSeq (sSetM 0 (eK (.int 1)) (e2 kAdd (eVar 3) (eK (.int 1)))) (sSeq (sSet 4 (e2 kAdd (e2 kMul (eK (.int 60107)) (eVar 3)) (eK (.int 271)))) (sSeq (sIf (bOf (e2 kNe (eIxM (eVar 0) (eK (.int 0))) (asD (lLst aNil)))) (sSet 4 (e2 ixD (eIxM (eVar 0) (eK (.int 0))) (e2 kMod (e1 kInt (eVar 3)) (e1 kLen (eIxM (eVar 0) (eK (.int 0))))))) sNext) s)))) (rho0 N__law_draw.length [.mu 0, .int (many : Int)]) (penC ns a 0) = r := fun r s h =>
      (ev_seq ((ev_ifF t1).trans rfl)).trans ((ev_seq (ev_set rfl)).trans ((ev_seq pen1).trans ((ev_seq (ev_set (ev_e2 (ev_e2 rfl rfl c60) rfl rfl))).trans ((ev_seq cellS).trans h))))
    have ln : kLen (.lst (ns.map D.int)) = some (.int (ns.length : Int)) := by
      show some (D.int ((ns.map D.int).length : Int)) = _
      rw [List.length_map]
    have p18 : e2 kPow (eK (.int 10)) (eK (.int 18)) [.im (.mu 0), .im (.int (many : Int)), .no, .im (.int (a : Int)), .im (.int cell), .no, .no] (penC ns (a + 1) 0) = some (.int (10 ^ 18), penC ns (a + 1) 0) := ev_e2 rfl rfl (kPow_small (by decide))
    have big : ∃ b : Bool, (bAnd (bOf (e2 (kCmp fun i j => decide (i < j)) (eVar 3) (e1 kLen (eIxM (eVar 0) (eK (.int 0)))))) (bOf (e2 (kCmp fun i j => decide (j ≤ i)) (e1 kAbs (eVar 4)) (e2 kPow (eK (.int 10)) (eK (.int 18)))))) [.im (.mu 0), .im (.int (many : Int)), .no, .im (.int (a : Int)), .im (.int cell), .no, .no] (penC ns (a + 1) 0) = some (b, penC ns (a + 1) 0) := by
      have f1 : (bOf (e2 (kCmp fun i j => decide (i < j)) (eVar 3) (e1 kLen (eIxM (eVar 0) (eK (.int 0)))))) [.im (.mu 0), .im (.int (many : Int)), .no, .im (.int (a : Int)), .im (.int cell), .no, .no] (penC ns (a + 1) 0) = some (decide ((a : Int) < (ns.length : Int)), penC ns (a + 1) 0) := ev_bOf (ev_e2 rfl (ev_e1 (x := .lst (ns.map .int)) rfl ln) rfl)
      cases q : decide ((a : Int) < (ns.length : Int)) with
      | false => rw [q] at f1; exact ⟨false, ev_and0 f1⟩
      | true => rw [q] at f1; exact ⟨_, ev_and1 f1 (ev_bOf (ev_e2 (ev_e1 rfl rfl) p18 rfl))⟩
    obtain ⟨b, big⟩ := big
    cases b with
    | true =>
      have ab : kAbs (.int cell) = some (.int (cell.natAbs : Int)) := by
        show some (D.int (if cell < 0 then -cell else cell)) = _
        congr 2
        split <;> omega
      have gr : ∃ g : Int, 0 ≤ g ∧ e2 kAdd (e2 kMul (eK (.int 2)) (e1 kAbs (eVar 4))) (e1 kInt (e2 (kCmp fun i j => decide (i < j)) (eVar 4) (eK (.int 0)))) [.im (.mu 0), .im (.int (many : Int)), .no, .im (.int (a : Int)), .im (.int cell), .no, .no] (penC ns (a + 1) 0) = some (.int g, penC ns (a + 1) 0) :=
        ⟨2 * (cell.natAbs : Int) + (if decide (cell < 0) = true then 1 else 0), by split <;> omega, ev_e2 (ev_e2 rfl (ev_e1 rfl ab) (kMul_small (by decide))) (ev_e1 (ev_e2 rfl rfl rfl) rfl) rfl⟩
      obtain ⟨g, g0, gr⟩ := gr
      obtain ⟨r1, r2⟩ := fm_rng (x := g) hm
      have pen3 : sSetM 0 (eK (.int 2)) (e2 kDiv (eVar 5) (eVar 1)) [.im (.mu 0), .im (.int (many : Int)), .no, .im (.int (a : Int)), .im (.int cell), .im (.int g), .no] (penC ns (a + 1) 0) = some (.nx [.im (.mu 0), .im (.int (many : Int)), .no, .im (.int (a : Int)), .im (.int cell), .im (.int g), .no], penC ns (a + 1) (g.fdiv (many : Int))) :=
        ev_setM (m := 0) (j := 2) (C2 := penC ns (a + 1) 0) (ev_e2 (x := .int g) (C1 := penC ns (a + 1) 0) rfl rfl (kDiv_ne hm0)) rfl rfl rfl rfl
      have ev : F__law_draw [.mu 0, .int (many : Int)] (penC ns a 0) = some (.int (g.fmod (many : Int)), penC ns (a + 1) (g.fdiv (many : Int))) :=
        ev_run (start _ _ (ev_seqR ((ev_ifT big).trans ((ev_seq (ev_set gr)).trans ((ev_seq pen3).trans (ev_ret (ev_e2 (x := .int g) (C1 := penC ns (a + 1) (g.fdiv (many : Int))) (ev_e1 rfl rfl) rfl (kMod_ne hm0))))))))
      exact ⟨g.fmod (many : Int), a + 1, g.fdiv (many : Int), ev, r1, r2, by omega, Int.fdiv_nonneg g0 (by omega)⟩
    | false =>
      obtain ⟨x1, x2⟩ : 0 ≤ cell.fmod 2147483563 ∧ cell.fmod 2147483563 < 2147483563 := fm_rng (x := cell) (m := 2147483563) (by decide)
      have aa : (a : Int) * (a : Int) ≤ 100000 * 100000 := Int.mul_le_mul (by omega) (by omega) (by omega) (by omega)
      have aa0 : 0 ≤ (a : Int) * (a : Int) := Int.mul_nonneg (by omega) (by omega)
      have ea : 57457 * (a : Int) * (a : Int) = 57457 * ((a : Int) * (a : Int)) := Int.mul_assoc _ _ _
      have base : e2 kAdd (e2 kAdd (e2 kAdd (e2 kMod (e1 kInt (eVar 4)) (eK (.int 2147483563))) (e2 kMul (e2 kMul (eK (.int 57457)) (eVar 3)) (eVar 3))) (e2 kMul (eK (.int 60107)) (eVar 3))) (eK (.int 29)) [.im (.mu 0), .im (.int (many : Int)), .no, .im (.int (a : Int)), .im (.int cell), .no, .no] (penC ns (a + 1) 0) =
          some (.int (cell.fmod 2147483563 + 57457 * (a : Int) * (a : Int) + 60107 * (a : Int) + 29), penC ns (a + 1) 0) :=
        ev_e2 (ev_e2 (ev_e2 (ev_e2 (x := .int cell) (ev_e1 rfl rfl) rfl (kMod_ne (by decide))) (ev_e2 (ev_e2 rfl rfl (kMul_small (by decide))) rfl (kMul_small (by omega))) rfl) (ev_e2 rfl rfl c60) rfl) rfl rfl
      have pw1 : kPow (.int (cell.fmod 2147483563 + 57457 * (a : Int) * (a : Int) + 60107 * (a : Int) + 29)) (.int 5) = some (.int ((cell.fmod 2147483563 + 57457 * (a : Int) * (a : Int) + 60107 * (a : Int) + 29) ^ 5)) := kPow_small ⟨by decide, by decide, by omega⟩
      have m6 : ∃ v : Int, 0 ≤ v ∧ v < 2147483647 ∧ e2 kMod (e1 kInt (e2 kPow (e2 kAdd (e2 kAdd (e2 kAdd (e2 kMod (e1 kInt (eVar 4)) (eK (.int 2147483563))) (e2 kMul (e2 kMul (eK (.int 57457)) (eVar 3)) (eVar 3))) (e2 kMul (eK (.int 60107)) (eVar 3))) (eK (.int 29))) (eK (.int 5)))) (eK (.int 2147483647)) [.im (.mu 0), .im (.int (many : Int)), .no, .im (.int (a : Int)), .im (.int cell), .no, .no] (penC ns (a + 1) 0) = some (.int v, penC ns (a + 1) 0) := by
        have h := fm_rng (x := (cell.fmod 2147483563 + 57457 * (a : Int) * (a : Int) + 60107 * (a : Int) + 29) ^ 5) (m := 2147483647) (by decide)
        exact ⟨_, h.1, h.2, ev_e2 (ev_e1 (ev_e2 base rfl pw1) rfl) rfl (kMod_ne (by decide))⟩
      obtain ⟨v, v0, v1, m6⟩ := m6
      have vm : v * (2 * (a : Int) + 31) ≤ 2147483647 * 200031 := Int.mul_le_mul (by omega) (by omega) (by omega) (by omega)
      have vm0 : 0 ≤ v * (2 * (a : Int) + 31) := Int.mul_nonneg v0 (by omega)
      have base2 : e2 kAdd (e2 kAdd (e2 kMul (eVar 6) (e2 kAdd (e2 kMul (eK (.int 2)) (eVar 3)) (eK (.int 31)))) (e2 kMul (eK (.int 271)) (eVar 3))) (eK (.int 5)) [.im (.mu 0), .im (.int (many : Int)), .no, .im (.int (a : Int)), .im (.int cell), .no, .im (.int v)] (penC ns (a + 1) 0) = some (.int (v * (2 * (a : Int) + 31) + 271 * (a : Int) + 5), penC ns (a + 1) 0) :=
        ev_e2 (ev_e2 (ev_e2 rfl (ev_e2 (ev_e2 rfl rfl (kMul_small (by decide))) rfl rfl) (kMul_small (by omega))) (ev_e2 rfl rfl (kMul_small (by decide))) rfl) rfl rfl
      have pw2 : kPow (.int (v * (2 * (a : Int) + 31) + 271 * (a : Int) + 5)) (.int 3) = some (.int ((v * (2 * (a : Int) + 31) + 271 * (a : Int) + 5) ^ 3)) := kPow_small ⟨by decide, by decide, by omega⟩
      generalize hw : ((v * (2 * (a : Int) + 31) + 271 * (a : Int) + 5) ^ 3).fmod 2147483587 = w
      have m7 : e2 kMod (e1 kInt (e2 kPow (e2 kAdd (e2 kAdd (e2 kMul (eVar 6) (e2 kAdd (e2 kMul (eK (.int 2)) (eVar 3)) (eK (.int 31)))) (e2 kMul (eK (.int 271)) (eVar 3))) (eK (.int 5))) (eK (.int 3)))) (eK (.int 2147483587)) [.im (.mu 0), .im (.int (many : Int)), .no, .im (.int (a : Int)), .im (.int cell), .no, .im (.int v)] (penC ns (a + 1) 0) = some (.int w, penC ns (a + 1) 0) := by
        rw [← hw]
        exact ev_e2 (ev_e1 (ev_e2 base2 rfl pw2) rfl) rfl (kMod_ne (by decide))
      have last : e2 kMod (e1 kInt (e2 kDiv (eVar 6) (eK (.int 32)))) (eVar 1) [.im (.mu 0), .im (.int (many : Int)), .no, .im (.int (a : Int)), .im (.int cell), .no, .im (.int w)] (penC ns (a + 1) 0) = some (.int ((w.fdiv 32).fmod (many : Int)), penC ns (a + 1) 0) :=
        ev_e2 (x := .int (w.fdiv 32)) (ev_e1 (ev_e2 (x := .int w) (C1 := penC ns (a + 1) 0) rfl rfl (kDiv_ne (by decide))) rfl) rfl (kMod_ne hm0)
      obtain ⟨r1, r2⟩ := fm_rng (x := w.fdiv 32) hm
      have ev : F__law_draw [.mu 0, .int (many : Int)] (penC ns a 0) = some (.int ((w.fdiv 32).fmod (many : Int)), penC ns (a + 1) 0) :=
        ev_run (start _ _ ((ev_seq ((ev_ifF big).trans rfl)).trans ((ev_seq (ev_set m6)).trans ((ev_seq (ev_set m7)).trans (ev_ret last)))))
      exact ⟨_, a + 1, 0, ev, r1, r2, by omega, Int.le_refl _⟩
theorem ev_drawN {ns : List Int} {a many : Nat} {st : Int} (hn : ns.length ≤ 63) (ha : a ≤ 100000) (hs : 0 ≤ st) (hm : 1 ≤ many) : ∃ (r a' : Nat) (st' : Int), F__law_draw [.mu 0, .int (many : Int)] (penC ns a st) = some (.int (r : Int), penC ns a' st') ∧ r < many ∧ a' ≤ a + 1 ∧ 0 ≤ st' := by
  obtain ⟨r, a', st', h1, h2, h3, h4, h5⟩ := ev_draw hn ha hs hm
  exact ⟨r.toNat, a', st', by rw [h1]; congr 3; omega, by omega, h4, h5⟩
theorem draws {ns : List Int} (hn : ns.length ≤ 63) {size : Nat} (hz : size ≤ 2000) {ρ : Rho} (h0 : ρ[0]? = some (.im (.mu 0))) (h2 : ρ[2]? = some (.im (.int (size : Int)))) (hl : ρ.length = 10) : ∀ (ds : List D) (a : Nat) (st : Int), a + ds.length ≤ 100000 → 0 ≤ st →
    ∃ (l : List Int) (a' : Nat) (st' : Int), lcGo (lcStep [9] (gSet 9) bTrue (e2 kSub (eCallN 2 F__law_draw (aCons (eVar 0) (aCons (e2 kAdd (e2 kMul (eK (.int 2)) (eVar 2)) (eK (.int 1))) aNil))) (eVar 2)) ρ) ds (penC ns a st) = some (l.map .int, penC ns a' st') ∧ l.length = ds.length ∧ (∀ x ∈ l, Sm 2000 x) ∧ a' ≤ a + ds.length ∧ 0 ≤ st'
  | [], a, st, _, hs => ⟨[], a, st, rfl, rfl, by simp, by simp, hs⟩
  | d :: ds, a, st, ha, hs => by
    simp only [List.length_cons] at ha
    obtain ⟨r, a1, st1, w1, w2, w3, w4⟩ := ev_drawN (a := a) (st := st) (many := 2 * size + 1) hn (by omega) hs (by omega)
    obtain ⟨l, a2, st2, v1, v2, v3, v4, v5⟩ := draws hn hz h0 h2 hl ds a1 st1 (by omega) w4
    have hw : (wipeR ρ [9]).length = 10 := by rw [wipeR_length, hl]
    have g0 : eVar 0 ((wipeR ρ [9]).set 9 (.im d)) (penC ns a st) = some (.mu 0, penC ns a st) := by
      unfold eVar
      rw [List.getElem?_set_ne (by decide), wipeR_at, if_neg (by simp), h0]
    have g2 : ∀ C, eVar 2 ((wipeR ρ [9]).set 9 (.im d)) C = some (.int (size : Int), C) := fun C => by
      unfold eVar
      rw [List.getElem?_set_ne (by decide), wipeR_at, if_neg (by simp), h2]
    have many : e2 kAdd (e2 kMul (eK (.int 2)) (eVar 2)) (eK (.int 1)) ((wipeR ρ [9]).set 9 (.im d)) (penC ns a st) = some (.int ((2 * size + 1 : Nat) : Int), penC ns a st) := by
      refine ev_e2 (ev_e2 rfl (g2 _) (kMul_small (by decide))) rfl ?_
      rw [show ((2 * size + 1 : Nat) : Int) = 2 * (size : Int) + 1 by omega]
      rfl
    have step : lcStep [9] (gSet 9) bTrue (e2 kSub (eCallN 2 F__law_draw (aCons (eVar 0) (aCons (e2 kAdd (e2 kMul (eK (.int 2)) (eVar 2)) (eK (.int 1))) aNil))) (eVar 2)) ρ d (penC ns a st) = some ([.int ((r : Int) - (size : Int))], penC ns a1 st1) := by
      unfold lcStep gSet
      rw [if_pos (by rw [hw]; decide)]
      dsimp only
      show (match some (true, penC ns a st) with
        | some (true, C1) => match e2 kSub (eCallN 2 F__law_draw (aCons (eVar 0) (aCons (e2 kAdd (e2 kMul (eK (.int 2)) (eVar 2)) (eK (.int 1))) aNil))) (eVar 2) ((wipeR ρ [9]).set 9 (.im d)) C1 with
          | some (e, C2) => some ([e], C2)
          | none => none
        | some (false, C1) => some ([], C1)
        | none => none) = _
      dsimp only
      rw [ev_e2 (ev_call (ev_cons g0 (ev_cons many rfl)) w1) (g2 _) rfl]
    refine ⟨((r : Int) - (size : Int)) :: l, a2, st2, ?_, by simp [v2], fun x hx => ?_, by simp only [List.length_cons]; omega, v5⟩
    · unfold lcGo
      rw [step]
      dsimp only
      rw [v1]
      rfl
    · rcases List.mem_cons.mp hx with e | hx
      · rw [e]; exact ⟨by omega, by omega⟩
      · exact v3 x hx
theorem dups_len {α : Type} [BEq α] [LawfulBEq α] : ∀ (n : Nat) (l : List α), l.length ≤ n → l.eraseDups.length ≤ l.length
  | _, [], _ => by simp
  | 0, a :: l, h => by simp at h
  | n + 1, a :: l, h => by
    rw [List.eraseDups_cons]
    have h1 := List.length_filter_le (fun b => !b == a) l
    have h2 := dups_len n (l.filter fun b => !b == a) (Nat.le_trans h1 (by simpa using h))
    simp only [List.length_cons]
    omega
theorem sort_facts (ks : List (List Int)) : (sortSetI ks).length ≤ ks.length ∧ (∀ k, k ∈ sortSetI ks ↔ k ∈ ks) ∧ (ks ≠ [] → 0 < (sortSetI ks).length) := by
  have m : ∀ k, k ∈ sortSetI ks ↔ k ∈ ks := fun k => by
    unfold sortSetI
    rw [(List.mergeSort_perm _ _).mem_iff, List.mem_eraseDups]
  refine ⟨?_, m, fun h => ?_⟩
  · unfold sortSetI
    rw [(List.mergeSort_perm _ _).length_eq]
    exact dups_len _ _ (Nat.le_refl _)
  · cases ks with
    | nil => exact absurd rfl h
    | cons k ks => exact List.length_pos_of_mem ((m k).mpr List.mem_cons_self)
theorem tOf {ρ : Rho} {C C1 : Mem} {l : List Int} {g : LF} (h : g ρ C = some (l.map .int, C1)) : tOfL g ρ C = some (tupI l, C1) := by unfold tOfL; rw [h]; rfl
theorem as_T {ρ : Rho} {C C1 : Mem} {l : List Int} {f : EF} (h : f ρ C = some (tupI l, C1)) : asT f ρ C = some (l.map .int, C1) := by unfold asT; rw [h]; rfl
theorem ev_lix {ρ : Rho} {C C1 C2 : Mem} {ds : List D} {i : Nat} {d : D} {f : LF} {h : EF} (h1 : f ρ C = some (ds, C1)) (h2 : h ρ C1 = some (.int (i : Int), C2)) (h3 : ds[i]? = some d) : lix f h ρ C = some (d, C2) := by
  unfold lix
  rw [h1]
  dsimp only
  rw [h2]
  dsimp only
  rw [Ht.atI_nat, h3]
theorem ev_lLc {vs : List Nat} {fi : LF} {k : GF} {tf : BF} {ef : EF} {ρ : Rho} {C C1 : Mem} {ds : List D} {r : Option (List D × Mem)} (h1 : fi ρ C = some (ds, C1)) (ho : noOw ρ vs = true) (hl : ds.length ≤ 100000) (h2 : lcGo (lcStep vs k tf ef ρ) ds C1 = r) : lLc vs fi k tf ef ρ C = r := by
  unfold lLc
  rw [h1]
  dsimp only
  rw [if_pos ⟨ho, hl⟩]
  exact h2
/-- a turn of the drawing -/
noncomputable abbrev dB : SF := (sSeq (sSet 6 (tOfL (lLc [9] (lRng1 (eVar 1)) (gSet 9) bTrue (e2 kSub (eCallN 2 F__law_draw (aCons (eVar 0) (aCons (e2 kAdd (e2 kMul (eK (.int 2)) (eVar 2)) (eK (.int 1))) aNil))) (eVar 2))))) (sSeq (sIf (bAnd (bOf (eVar 3)) (bOf (e2 kNe (asD (lVar 4)) (asD (lLst aNil))))) (sSet 6 (tOfL (lLc [8] (asT (lix (lVar 4) (eK (.int 0)))) (gSet 8) bTrue (e2 kMul (e2 kAdd (eK (.int 2)) (eVar 5)) (eVar 8))))) sNext) (sSeq (sSet 7 (asD (lLc [8] (asT (eVar 6)) (gSet 8) (bOf (e2 kNe (eVar 8) (eK (.int 0)))) (eVar 8)))) (sIf (bAnd (bOf (e2 kNe (eVar 7) (asD (lLst aNil)))) (bOf (e2 (kCmp fun i j => decide (i ≤ j)) (e1 kMax (asD (lLc [8] (asT (eVar 6)) (gSet 8) bTrue (e1 kAbs (eVar 8))))) (eK (.int 2000))))) (sSeq (sIf (bOf (e2 (kCmp fun i j => decide (i < j)) (e2 ixD (eVar 7) (eK (.int 0))) (eK (.int 0)))) (sSet 6 (tOfL (lLc [8] (asT (eVar 6)) (gSet 8) bTrue (e2 kSub (eK (.int 0)) (eVar 8))))) sNext) (sApp 4 (eVar 6))) sNext))))
theorem ev_turnS {ns : List Int} (hn : ns.length ≤ 63) {d size : Nat} (hd : 1 ≤ d) (hd3 : d ≤ 3) (hz : size ≤ 2000) {b : Bool} {k a : Nat} {st : Int} {fnd : List (List Int)} {s6 s7 : Sl} (ha : a ≤ 1000) (hs : 0 ≤ st) (hf : ∀ r ∈ fnd, r.length = d ∧ ∀ x ∈ r, Sm 2000 x) (hfl : fnd.length ≤ 100) :
    ∃ (s6' s7' : Sl) (fnd' : List (List Int)) (a' : Nat) (st' : Int), dB [.im (.mu 0), .im (.int (d : Int)), .im (.int (size : Int)), .im (.bl b), .ow (fnd.map tupI), .im (.int (k : Int)), s6, s7, .no, .no] (penC ns a st) =
      some (.nx [.im (.mu 0), .im (.int (d : Int)), .im (.int (size : Int)), .im (.bl b), .ow (fnd'.map tupI), .im (.int (k : Int)), s6', s7', .no, .no], penC ns a' st') ∧ a' ≤ a + 3 ∧ 0 ≤ st' ∧ (∀ r ∈ fnd', r.length = d ∧ ∀ x ∈ r, Sm 2000 x) ∧ fnd'.length ≤ fnd.length + 1 := by
  obtain ⟨l, a', st', w1, w2, w3, w4, w5⟩ := draws hn hz (ρ := [.im (.mu 0), .im (.int (d : Int)), .im (.int (size : Int)), .im (.bl b), .ow (fnd.map tupI), .im (.int (k : Int)), s6, s7, .no, .no]) rfl rfl rfl ((List.range d).map fun (i : Nat) => D.int (i : Int)) a st (by simp; omega) hs
  rw [List.length_map, List.length_range] at w2 w4
  have c1 : lLc [9] (lRng1 (eVar 1)) (gSet 9) bTrue (e2 kSub (eCallN 2 F__law_draw (aCons (eVar 0) (aCons (e2 kAdd (e2 kMul (eK (.int 2)) (eVar 2)) (eK (.int 1))) aNil))) (eVar 2)) [.im (.mu 0), .im (.int (d : Int)), .im (.int (size : Int)), .im (.bl b), .ow (fnd.map tupI), .im (.int (k : Int)), s6, s7, .no, .no] (penC ns a st) = some (l.map .int, penC ns a' st') := by
    refine ev_lLc (ev_rng1 (n := d) (C1 := penC ns a st) rfl (by omega)) rfl ?_ w1
    rw [List.length_map, List.length_range] -- ht
    omega
  generalize hC : penC ns a' st' = C at *
  -- on the line, or not
  have st2 : ∃ l2 : List Int, l2.length = d ∧ sIf (bAnd (bOf (eVar 3)) (bOf (e2 kNe (asD (lVar 4)) (asD (lLst aNil))))) (sSet 6 (tOfL (lLc [8] (asT (lix (lVar 4) (eK (.int 0)))) (gSet 8) bTrue (e2 kMul (e2 kAdd (eK (.int 2)) (eVar 5)) (eVar 8))))) sNext
      [.im (.mu 0), .im (.int (d : Int)), .im (.int (size : Int)), .im (.bl b), .ow (fnd.map tupI), .im (.int (k : Int)), .im (tupI l), s7, .no, .no] C = some (.nx [.im (.mu 0), .im (.int (d : Int)), .im (.int (size : Int)), .im (.bl b), .ow (fnd.map tupI), .im (.int (k : Int)), .im (tupI l2), s7, .no, .no], C) := by
    cases b with
    | false => exact ⟨l, w2, (ev_ifF (ev_and0 (ev_bOf rfl))).trans rfl⟩
    | true =>
      have t := ev_and1 (f := bOf (eVar 3)) (h := bOf (e2 kNe (asD (lVar 4)) (asD (lLst aNil)))) (ρ := [.im (.mu 0), .im (.int (d : Int)), .im (.int (size : Int)), .im (.bl true), .ow (fnd.map tupI), .im (.int (k : Int)), .im (tupI l), s7, .no, .no]) (C := C) (C1 := C) (C2 := C) (ev_bOf rfl)
        (ev_bOf (ev_e2 (x := .lst (fnd.map tupI)) rfl (ev_asD (ev_lst (ds := []) (C1 := C) rfl)) (kNe_nil _ (okDs_map (fun x => ok_tupI 58 x) _))))
      cases fnd with
      | nil => exact ⟨l, w2, (ev_ifF t).trans rfl⟩
      | cons r rs =>
        have hr := hf r List.mem_cons_self
        have lixe : lix (lVar 4) (eK (.int 0)) [.im (.mu 0), .im (.int (d : Int)), .im (.int (size : Int)), .im (.bl true), .ow ((r :: rs).map tupI), .im (.int (k : Int)), .im (tupI l), s7, .no, .no] C = some (tupI r, C) := ev_lix (i := 0) rfl rfl rfl
        have m := lc_map (vs := [8]) (fi := asT (lix (lVar 4) (eK (.int 0)))) (k := gSet 8) (ef := e2 kMul (e2 kAdd (eK (.int 2)) (eVar 5)) (eVar 8)) (ρ := [.im (.mu 0), .im (.int (d : Int)), .im (.int (size : Int)), .im (.bl true), .ow ((r :: rs).map tupI), .im (.int (k : Int)), .im (tupI l), s7, .no, .no]) (C := C) (C0 := C)
          r D.int (fun x => D.int ((2 + (k : Int)) * x)) (as_T (C1 := C) lixe) rfl (by omega) fun x hx => ⟨_, rfl, ev_e2 (ev_e2 rfl rfl rfl) rfl (by
            have hx := (hr.2 x hx)
            show (if mulFit (2 + (k : Int)) x = true then some (D.int ((2 + (k : Int)) * x)) else none) = _
            rw [if_pos (show mulFit (2 + (k : Int)) x = true from decide_eq_true (.inr (.inl (by unfold Sm at hx; omega))))])⟩
        refine ⟨r.map fun x => (2 + (k : Int)) * x, by simpa using hr.1, (ev_ifT t).trans (ev_set (tOf (m.trans ?_)))⟩
        rw [List.map_map]
        rfl
  obtain ⟨l2, hl2, st2⟩ := st2
  have sg := lc_eq (vs := [8]) (fi := asT (eVar 6)) (k := gSet 8) (tf := bOf (e2 kNe (eVar 8) (eK (.int 0)))) (ef := eVar 8) (ρ := [.im (.mu 0), .im (.int (d : Int)), .im (.int (size : Int)), .im (.bl b), .ow (fnd.map tupI), .im (.int (k : Int)), .im (tupI l2), s7, .no, .no]) (C := C) (C0 := C)
    l2 D.int (fun x => decide (x ≠ 0)) D.int (as_T rfl) rfl (by omega) fun x hx => ⟨_, rfl, ev_bOf (ev_e2 rfl rfl (kNe_int _ _)), fun _ => rfl⟩
  generalize hsg : l2.filter (fun x => decide (x ≠ 0)) = sgn at sg
  have pre : ∀ (r : Option (Out × Mem)) (s : SF), s [.im (.mu 0), .im (.int (d : Int)), .im (.int (size : Int)), .im (.bl b), .ow (fnd.map tupI), .im (.int (k : Int)), .im (tupI l2), .im (eI sgn), .no, .no] C = r →
      sSeq (sSet 6 (tOfL (lLc [9] (lRng1 (eVar 1)) (gSet 9) bTrue (e2 kSub (eCallN 2 F__law_draw (aCons (eVar 0) (aCons (e2 kAdd (e2 kMul (eK (.int 2)) (eVar 2)) (eK (.int 1))) aNil))) (eVar 2))))) (sSeq (sIf (bAnd (bOf (eVar 3)) (bOf (e2 kNe (asD (lVar 4)) (asD (lLst aNil))))) (sSet 6 (tOfL (lLc [8] (asT (lix (lVar 4) (eK (.int 0)))) (gSet 8) bTrue (e2 kMul (e2 kAdd (eK (.int 2)) (eVar 5)) (eVar 8))))) sNext) (sSeq (sSet 7 (asD (lLc [8] (asT (eVar 6)) (gSet 8) (bOf (e2 kNe (eVar 8) (eK (.int 0)))) (eVar 8)))) s))
        [.im (.mu 0), .im (.int (d : Int)), .im (.int (size : Int)), .im (.bl b), .ow (fnd.map tupI), .im (.int (k : Int)), s6, s7, .no, .no] (penC ns a st) = r := fun r s h =>
    (ev_seq (ev_set (tOf c1))).trans ((ev_seq st2).trans ((ev_seq (ev_set (ev_asD sg))).trans h))
  have tn : (bOf (e2 kNe (eVar 7) (asD (lLst aNil)))) [.im (.mu 0), .im (.int (d : Int)), .im (.int (size : Int)), .im (.bl b), .ow (fnd.map tupI), .im (.int (k : Int)), .im (tupI l2), .im (eI sgn), .no, .no] C = some (decide (sgn.map D.int ≠ []), C) :=
    ev_bOf (ev_e2 (x := eI sgn) rfl (ev_asD (ev_lst (ds := []) (C1 := C) rfl)) (kNe_nil _ (ok_ints 59 sgn)))
  cases hsn : sgn with
  | nil =>
    rw [hsn] at pre tn
    exact ⟨_, _, fnd, a', st', pre _ _ ((ev_ifF (ev_and0 tn)).trans (by rw [← hC]; rfl)), by omega, w5, hf, by omega⟩
  | cons y ys =>
    rw [hsn] at pre tn
    have ab := lc_map (vs := [8]) (fi := asT (eVar 6)) (k := gSet 8) (ef := e1 kAbs (eVar 8)) (ρ := [.im (.mu 0), .im (.int (d : Int)), .im (.int (size : Int)), .im (.bl b), .ow (fnd.map tupI), .im (.int (k : Int)), .im (tupI l2), .im (eI (y :: ys)), .no, .no]) (C := C) (C0 := C)
      l2 D.int (fun x => D.int (if x < 0 then -x else x)) (as_T rfl) rfl (by omega) fun x hx => ⟨_, rfl, ev_e1 rfl rfl⟩
    have hne : ∃ x0 r0, l2.map (fun x : Int => if x < 0 then -x else x) = x0 :: r0 := by
      cases l2 with
      | nil => simp at hl2; omega
      | cons x r => exact ⟨_, _, rfl⟩
    obtain ⟨x0, r0, hx0⟩ := hne
    have mx : kMax (.lst (l2.map fun x => D.int (if x < 0 then -x else x))) = some (.int (maxL (x0 :: r0))) := by
      have e : (l2.map fun x => D.int (if x < 0 then -x else x)) = (l2.map fun x : Int => if x < 0 then -x else x).map D.int := by rw [List.map_map]; rfl
      unfold kMax
      rw [e, hx0]
      have := dInts_map (x0 :: r0)
      dsimp only
      rw [this]
    have tt := ev_and1 tn (h := bOf (e2 (kCmp fun i j => decide (i ≤ j)) (e1 kMax (asD (lLc [8] (asT (eVar 6)) (gSet 8) bTrue (e1 kAbs (eVar 8))))) (eK (.int 2000)))) (b := decide (maxL (x0 :: r0) ≤ 2000)) (ev_bOf (ev_e2 (ev_e1 (ev_asD ab) mx) rfl rfl))
    by_cases hmx : maxL (x0 :: r0) ≤ 2000
    · rw [decide_eq_true hmx] at tt
      have sm2 : ∀ x ∈ l2, Sm 2000 x := fun x hx => by
        have := (maxL_mem x0 r0).2 (if x < 0 then -x else x) (by rw [← hx0]; exact List.mem_map.mpr ⟨x, hx, rfl⟩)
        unfold Sm
        split at this <;> omega
      have neg := lc_map (vs := [8]) (fi := asT (eVar 6)) (k := gSet 8) (ef := e2 kSub (eK (.int 0)) (eVar 8)) (ρ := [.im (.mu 0), .im (.int (d : Int)), .im (.int (size : Int)), .im (.bl b), .ow (fnd.map tupI), .im (.int (k : Int)), .im (tupI l2), .im (eI (y :: ys)), .no, .no]) (C := C) (C0 := C)
        l2 D.int (fun x => D.int (0 - x)) (as_T rfl) rfl (by omega) fun x hx => ⟨_, rfl, ev_e2 rfl rfl rfl⟩
      have neg' : (l2.map fun x => D.int (0 - x)) = (l2.map fun x : Int => 0 - x).map D.int := by rw [List.map_map]; rfl
      rw [neg'] at neg
      have app : ∀ l3 : List Int, sApp 4 (eVar 6) [.im (.mu 0), .im (.int (d : Int)), .im (.int (size : Int)), .im (.bl b), .ow (fnd.map tupI), .im (.int (k : Int)), .im (tupI l3), .im (eI (y :: ys)), .no, .no] C = some (.nx [.im (.mu 0), .im (.int (d : Int)), .im (.int (size : Int)), .im (.bl b), .ow ((fnd ++ [l3]).map tupI), .im (.int (k : Int)), .im (tupI l3), .im (eI (y :: ys)), .no, .no], C) := fun l3 => by
        rw [List.map_append]
        exact ev_app rfl rfl (by simp; omega)
      have t0 : (bOf (e2 (kCmp fun i j => decide (i < j)) (e2 ixD (eVar 7) (eK (.int 0))) (eK (.int 0)))) [.im (.mu 0), .im (.int (d : Int)), .im (.int (size : Int)), .im (.bl b), .ow (fnd.map tupI), .im (.int (k : Int)), .im (tupI l2), .im (eI (y :: ys)), .no, .no] C = some (decide (y < 0), C) :=
        ev_bOf (ev_e2 (ev_e2 rfl rfl (ix_eI (l := y :: ys) (i := 0) (by simp))) rfl rfl)
      have keep : ∀ l3 : List Int, l3.length = d → (∀ x ∈ l3, Sm 2000 x) → ∀ r ∈ fnd ++ [l3], r.length = d ∧ ∀ x ∈ r, Sm 2000 x := fun l3 h1 h2 r hr => by
        rcases List.mem_append.mp hr with hr | hr -- ht
        · exact hf r hr
        · have : r = l3 := by simpa using hr
          rw [this]; exact ⟨h1, h2⟩
      by_cases hy : y < 0
      · rw [decide_eq_true hy] at t0
        exact ⟨_, _, fnd ++ [l2.map fun x => 0 - x], a', st', pre _ _ ((ev_ifT tt).trans ((ev_seq ((ev_ifT t0).trans (ev_set (tOf neg)))).trans ((app _).trans (by rw [← hC])))), by omega, w5, keep _ (by simpa using hl2) (fun x hx => by
          obtain ⟨z, hz, e⟩ := List.mem_map.mp hx
          have := sm2 z hz
          rw [← e]
          unfold Sm at *
          omega), by simp⟩
      · rw [decide_eq_false hy] at t0
        exact ⟨_, _, fnd ++ [l2], a', st', pre _ _ ((ev_ifT tt).trans ((ev_seq ((ev_ifF t0).trans rfl)).trans ((app _).trans (by rw [← hC])))), by omega, w5, keep _ hl2 sm2, by simp⟩
    · rw [decide_eq_false hmx] at tt
      exact ⟨_, _, fnd, a', st', pre _ _ ((ev_ifF tt).trans (by rw [← hC]; rfl)), by omega, w5, hf, by omega⟩
theorem turnsS {ns : List Int} (hn : ns.length ≤ 63) {d size : Nat} (hd : 1 ≤ d) (hd3 : d ≤ 3) (hz : size ≤ 2000) {b : Bool} : ∀ (m k a : Nat) (st : Int) (fnd : List (List Int)) (s5 s6 s7 : Sl), a + 3 * m ≤ 1000 → 0 ≤ st → (∀ r ∈ fnd, r.length = d ∧ ∀ x ∈ r, Sm 2000 x) → fnd.length + m ≤ 100 →
    ∃ (s5' s6' s7' : Sl) (fnd' : List (List Int)) (a' : Nat) (st' : Int), forGo (gSet 5) dB ((List.range' k m).map fun (i : Nat) => D.int (i : Int)) [.im (.mu 0), .im (.int (d : Int)), .im (.int (size : Int)), .im (.bl b), .ow (fnd.map tupI), s5, s6, s7, .no, .no] (penC ns a st) =
      some (.nx [.im (.mu 0), .im (.int (d : Int)), .im (.int (size : Int)), .im (.bl b), .ow (fnd'.map tupI), s5', s6', s7', .no, .no], penC ns a' st') ∧ a' ≤ a + 3 * m ∧ 0 ≤ st' ∧ (∀ r ∈ fnd', r.length = d ∧ ∀ x ∈ r, Sm 2000 x) ∧ fnd'.length ≤ fnd.length + m
  | 0, k, a, st, fnd, s5, s6, s7, _, hs, hf, _ => ⟨s5, s6, s7, fnd, a, st, rfl, by omega, hs, hf, by omega⟩
  | m + 1, k, a, st, fnd, s5, s6, s7, ha, hs, hf, hl => by
    obtain ⟨t6, t7, fnd1, a1, st1, w1, w2, w3, w4, w5⟩ := ev_turnS hn hd hd3 hz (b := b) (k := k) (a := a) (st := st) (fnd := fnd) (s6 := s6) (s7 := s7) (by omega) hs hf (by omega)
    obtain ⟨u5, u6, u7, fnd2, a2, st2, v1, v2, v3, v4, v5⟩ := turnsS hn hd hd3 hz (b := b) m (k + 1) a1 st1 fnd1 (.im (.int (k : Int))) t6 t7 (by omega) w3 w4 (by omega)
    exact ⟨u5, u6, u7, fnd2, a2, st2, forGo_cons rfl w1 v1, by omega, v3, v4, by omega⟩
theorem ev_steps {ns : List Int} {a : Nat} {st : Int} (hn : ns.length ≤ 63) (ha : a ≤ 500) (hs : 0 ≤ st) : ∃ (d : Nat) (ways : List (List Int)) (a' : Nat) (st' : Int), F__law_steps [.mu 0] (penC ns a st) = some (eW ways, penC ns a' st') ∧ d ≤ 3 ∧ 0 < ways.length ∧ ways.length ≤ 12 ∧ (∀ r ∈ ways, r.length = d ∧ ∀ x ∈ r, Sm 2000 x) ∧ a' ≤ a + 100 ∧ 0 ≤ st' := by
  obtain ⟨r1, a1, st1, p1, p2, p3, p4⟩ := ev_drawN (a := a) (st := st) (many := 3) hn (by omega) hs (by decide)
  obtain ⟨r2, a2, st2, q1, q2, q3, q4⟩ := ev_drawN (a := a1) (st := st1) (many := 3) hn (by omega) p4 (by decide)
  obtain ⟨r3, a3, st3, t1, t2, t3, t4⟩ := ev_drawN (a := a2) (st := st2) (many := 4) hn (by omega) q4 (by decide)
  obtain ⟨r4, a4, st4, u1, u2, u3, u4⟩ := ev_drawN (a := a3) (st := st3) (many := 5) hn (by omega) t4 (by decide)
  have hsz : ∃ size : Nat, size ≤ 2000 ∧ [D.int 2, D.int 4, D.int 2000][r2]? = some (.int (size : Int)) := by
    have : r2 = 0 ∨ r2 = 1 ∨ r2 = 2 := by omega
    rcases this with rfl | rfl | rfl
    · exact ⟨2, by decide, rfl⟩
    · exact ⟨4, by decide, rfl⟩
    · exact ⟨2000, by decide, rfl⟩
  obtain ⟨size, hz, hsz⟩ := hsz
  have hmm : ∃ m : Nat, m ≤ 12 ∧ [D.int 1, D.int 2, D.int 4, D.int 7, D.int 12][r4]? = some (.int (m : Int)) := by
    have : r4 = 0 ∨ r4 = 1 ∨ r4 = 2 ∨ r4 = 3 ∨ r4 = 4 := by omega
    rcases this with rfl | rfl | rfl | rfl | rfl
    · exact ⟨1, by decide, rfl⟩
    · exact ⟨2, by decide, rfl⟩
    · exact ⟨4, by decide, rfl⟩
    · exact ⟨7, by decide, rfl⟩
    · exact ⟨12, by decide, rfl⟩
  obtain ⟨m, hm, hmm⟩ := hmm
  generalize hd : 1 + r1 = d
  have d1 : e2 kAdd (eK (.int 1)) (eCallN 2 F__law_draw (aCons (eVar 0) (aCons (eK (.int 3)) aNil))) (rho0 N__law_steps.length [.mu 0]) (penC ns a st) = some (.int (d : Int), penC ns a1 st1) := by
    refine ev_e2 rfl (ev_call (ev_cons rfl (ev_cons rfl rfl)) p1) ?_
    rw [← hd, show ((1 + r1 : Nat) : Int) = 1 + (r1 : Int) by omega]
    rfl
  have d2 : e2 ixD (asD (lLst (aCons (eK (.int 2)) (aCons (eK (.int 4)) (aCons (eK (.int 2000)) aNil))))) (eCallN 2 F__law_draw (aCons (eVar 0) (aCons (eK (.int 3)) aNil))) [.im (.mu 0), .im (.int (d : Int)), .no, .no, .no, .no, .no, .no, .no, .no] (penC ns a1 st1) = some (.int (size : Int), penC ns a2 st2) :=
    ev_e2 (ev_asD (ev_lst rfl)) (ev_call (ev_cons rfl (ev_cons rfl rfl)) q1) (ix_lst hsz)
  have d3 : e2 kEq (eCallN 2 F__law_draw (aCons (eVar 0) (aCons (eK (.int 4)) aNil))) (eK (.int 0)) [.im (.mu 0), .im (.int (d : Int)), .im (.int (size : Int)), .no, .no, .no, .no, .no, .no, .no] (penC ns a2 st2) = some (.bl (decide ((r3 : Int) = 0)), penC ns a3 st3) :=
    ev_e2 (ev_call (ev_cons rfl (ev_cons rfl rfl)) t1) rfl (kEq_int _ _)
  generalize decide ((r3 : Int) = 0) = b at d3
  have d4 : e2 ixD (asD (lLst (aCons (eK (.int 1)) (aCons (eK (.int 2)) (aCons (eK (.int 4)) (aCons (eK (.int 7)) (aCons (eK (.int 12)) aNil))))))) (eCallN 2 F__law_draw (aCons (eVar 0) (aCons (eK (.int 5)) aNil))) [.im (.mu 0), .im (.int (d : Int)), .im (.int (size : Int)), .im (.bl b), .ow [], .no, .no, .no, .no, .no] (penC ns a3 st3) = some (.int (m : Int), penC ns a4 st4) :=
    ev_e2 (ev_asD (ev_lst rfl)) (ev_call (ev_cons rfl (ev_cons rfl rfl)) u1) (ix_lst hmm)
  obtain ⟨s5, s6, s7, fnd, a5, st5, w1, w2, w3, w4, w5⟩ := turnsS hn (d := d) (size := size) (by omega) (by omega) hz (b := b) m 0 a4 st4 [] .no .no .no (by omega) u4 (by simp) (by simp; omega)
  rw [← List.range_eq_range'] at w1
  have lp := (ev_for (k := gSet 5) (s := dB) (ev_rng1 d4 (by omega))).trans w1
  simp only [List.length_nil, Nat.zero_add] at w5
  -- none found: one step
  have lastS : ∃ fnd2 : List (List Int), fnd2 ≠ [] ∧ fnd2.length ≤ 12 ∧ (∀ r ∈ fnd2, r.length = d ∧ ∀ x ∈ r, Sm 2000 x) ∧ sIf (bOf (e2 kEq (asD (lVar 4)) (asD (lLst aNil)))) (sApp 4 (e2 kCatT (eTup (aCons (eK (.int 1)) aNil)) (e2 kRepT (eTup (aCons (eK (.int 0)) aNil)) (e2 kSub (eVar 1) (eK (.int 1)))))) sNext
      [.im (.mu 0), .im (.int (d : Int)), .im (.int (size : Int)), .im (.bl b), .ow (fnd.map tupI), s5, s6, s7, .no, .no] (penC ns a5 st5) = some (.nx [.im (.mu 0), .im (.int (d : Int)), .im (.int (size : Int)), .im (.bl b), .ow (fnd2.map tupI), s5, s6, s7, .no, .no], penC ns a5 st5) := by
    have t : (bOf (e2 kEq (asD (lVar 4)) (asD (lLst aNil)))) [.im (.mu 0), .im (.int (d : Int)), .im (.int (size : Int)), .im (.bl b), .ow (fnd.map tupI), s5, s6, s7, .no, .no] (penC ns a5 st5) = some (decide (fnd.map tupI = []), penC ns a5 st5) :=
      ev_bOf (ev_e2 (x := .lst (fnd.map tupI)) rfl (ev_asD (ev_lst (ds := []) (C1 := penC ns a5 st5) rfl)) (kEq_nil _ (okDs_map (fun x => ok_tupI 58 x) _)))
    cases fnd with
    | cons r rs => exact ⟨r :: rs, by simp, by omega, w4, (ev_ifF t).trans rfl⟩
    | nil =>
      have rep : kRepT (.tup [.int 0]) (.int ((d : Int) - 1)) = some (.tup ((List.replicate (d - 1) (0 : Int)).map .int)) := by
        show (if ([D.int 0] : List D) ≠ [] ∧ [D.int 0].length ≤ 1000 ∧ 0 ≤ (d : Int) - 1 ∧ (d : Int) - 1 ≤ 1000 then some (D.tup (List.replicate ((d : Int) - 1).toNat [D.int 0]).flatten) else none) = _
        rw [if_pos ⟨by simp, by simp, by omega, by omega⟩, show ((d : Int) - 1).toNat = d - 1 by omega]
        congr 2
        generalize d - 1 = n
        induction n with
        | zero => rfl
        | succ n ih => rw [List.replicate_succ, List.flatten_cons, ih, List.replicate_succ]; rfl
      have cat : kCatT (.tup [.int 1]) (.tup ((List.replicate (d - 1) (0 : Int)).map .int)) = some (tupI (1 :: List.replicate (d - 1) 0)) := by
        show (if ([D.int 1] : List D) ≠ [] ∧ [D.int 1].length + ((List.replicate (d - 1) (0 : Int)).map D.int).length ≤ 1000 then some (D.tup ([D.int 1] ++ (List.replicate (d - 1) (0 : Int)).map D.int)) else none) = _
        rw [if_pos ⟨by simp, by simp; omega⟩]
        rfl
      refine ⟨[1 :: List.replicate (d - 1) 0], by simp, by simp, fun r hr => ?_, (ev_ifT t).trans (ev_app (ds := []) (ev_e2 (ev_tup (C1 := penC ns a5 st5) (ev_cons rfl rfl)) (ev_e2 (ev_tup (C1 := penC ns a5 st5) (ev_cons rfl rfl)) (ev_e2 rfl rfl rfl) rep) cat) rfl (by simp))⟩
      have : r = 1 :: List.replicate (d - 1) 0 := by simpa using hr
      subst this
      refine ⟨by simp; omega, fun x hx => ?_⟩
      rcases List.mem_cons.mp hx with e | hx -- ht
      · rw [e]; exact ⟨by omega, by omega⟩
      · rw [List.eq_of_mem_replicate hx]; exact ⟨by omega, by omega⟩
  obtain ⟨fnd2, f1, f2, f3, f4⟩ := lastS
  obtain ⟨g1, g2, g3⟩ := sort_facts fnd2
  have srt : lSortSet (asL (eVar 4)) [.im (.mu 0), .im (.int (d : Int)), .im (.int (size : Int)), .im (.bl b), .im (.lst (fnd2.map tupI)), s5, s6, s7, .no, .no] (penC ns a5 st5) = some ((sortSetI fnd2).map tupI, penC ns a5 st5) := by
    unfold lSortSet
    rw [ev_asL (ds := fnd2.map tupI) (C1 := penC ns a5 st5) rfl]
    dsimp only
    rw [mapM_tups]
    dsimp only
    rw [if_pos ⟨by omega, List.all_eq_true.mpr fun r hr => by
      have := (f3 r hr).1
      cases r with
      | nil => simp at this; omega
      | cons x r => rfl⟩]
  refine ⟨d, sortSetI fnd2, a5, st5, ev_run ((ev_seq (ev_set d1)).trans ((ev_seq (ev_set d2)).trans ((ev_seq (ev_set d3)).trans ((ev_seq (ev_own (ev_lst (ds := []) (C1 := penC ns a3 st3) rfl))).trans ((ev_seq lp).trans ((ev_seq f4).trans ((ev_fz rfl).trans (ev_ret (ev_asD srt))))))))), by omega, g3 f1, by omega, fun r hr => f3 r ((g2 r).mp hr), by omega, w3⟩
end K62


set_option maxRecDepth 100000
set_option maxHeartbeats 1000000 -- ht
/-! k62: the law's def gives True. -/
namespace K62
open PySem PySem.Spec PyProof.Rows L2 Ht Mth
theorem ok_eT (n : Nat) (t : List (List Int)) : okD (n + 2) (eT t) = true := by
  have := okDs_map (f := eI) (fun x => ok_eI n x) t
  simpa [eT, okD] using this
theorem ok_eW (n : Nat) (t : List (List Int)) : okD (n + 2) (eW t) = true := by
  have := okDs_map (f := tupI) (fun x => ok_tupI n x) t
  simpa [eW, okD] using this
noncomputable abbrev lB : SF := (sSeq (sSet 3 (eCallN 1 F__law_steps (aCons (eVar 1) aNil))) (sSeq (sSet 4 (asD (asL (eVar 3)))) (sSeq (sSet 5 (eCallN 1 F_relations (aCons (eVar 4) aNil))) (sSeq (sIf (bOr (bOf (e2 kNe (eVar 4) (eVar 3))) (bOr (bNot (bOf (e1 (kIsi "tuple") (eVar 5)))) (bOf (e2 kNe (e1 kLen (eVar 5)) (eK (.int 3)))))) (sRet (eK (.bl false))) sNext) (sSeq (sIf (bNot (bOf (eCallN 4 F__law_is_basis (aCons (eVar 3) (aCons (e2 ixD (eVar 5) (eK (.int 0))) (aCons (e2 ixD (eVar 5) (eK (.int 1))) (aCons (e2 ixD (eVar 5) (eK (.int 2))) aNil))))))) (sRet (eK (.bl false))) sNext) (sIf (bOf (e2 kNe (eCallN 1 F_relations (aCons (eVar 4) aNil)) (eVar 5))) (sRet (eK (.bl false))) sNext))))))
theorem ev_lawturn {ns : List Int} {a : Nat} {st : Int} {s2 s3 s4 s5 : Sl} (hn : ns.length ≤ 63) (ha : a ≤ 500) (hs : 0 ≤ st) : ∃ (s3' s4' s5' : Sl) (a' : Nat) (st' : Int), lB [.no, .im (.mu 0), s2, s3, s4, s5] (penC ns a st) = some (.nx [.no, .im (.mu 0), s2, s3', s4', s5'], penC ns a' st') ∧ a' ≤ a + 100 ∧ 0 ≤ st' := by
  obtain ⟨d, ways, a', st', h1, h2, h3, h4, h5, h6, h7⟩ := ev_steps (a := a) (st := st) hn ha hs
  have dr : ∀ w ∈ ways, w.length = d := fun w hw => (h5 w hw).1
  have f2 : ∀ x, Sm 2000 x → Fit x := fun x hx => fit_pow (e := 11) hx (by decide) (by decide)
  obtain ⟨zeros, makers, back, found, B, k1, k2⟩ := ev_basis (C := penC ns a' st') h2 h3 h4 dr fun w hw x hx => ((h5 w hw).2 x hx).mono (by decide)
  have nz := B.nz
  have rel := ev_relations (C := penC ns a' st') h3 h4 (by omega) k1 k2
  have isb := ev_is_basis (C := penC ns a' st') h2 h3 h4 dr (fun w hw x hx => f2 x ((h5 w hw).2 x hx)) B
  have t1 : (bOr (bOf (e2 kNe (eVar 4) (eVar 3))) (bOr (bNot (bOf (e1 (kIsi "tuple") (eVar 5)))) (bOf (e2 kNe (e1 kLen (eVar 5)) (eK (.int 3)))))) [.no, .im (.mu 0), s2, .im (eW ways), .im (eW ways), .im (.tup [eT zeros, eT makers, eT back])] (penC ns a' st') = some (false, penC ns a' st') :=
    ev_or0 (ev_bOf (ev_e2 rfl rfl (kNe_same (ok_eW 58 ways)))) (ev_or0 (ev_not (b := true) (ev_bOf (ev_e1 rfl (isi_tup _)))) (ev_bOf (ev_e2 (x := .int 3) (ev_e1 rfl rfl) rfl (kNe_same rfl))))
  have t2 : (bNot (bOf (eCallN 4 F__law_is_basis (aCons (eVar 3) (aCons (e2 ixD (eVar 5) (eK (.int 0))) (aCons (e2 ixD (eVar 5) (eK (.int 1))) (aCons (e2 ixD (eVar 5) (eK (.int 2))) aNil))))))) [.no, .im (.mu 0), s2, .im (eW ways), .im (eW ways), .im (.tup [eT zeros, eT makers, eT back])] (penC ns a' st') = some (false, penC ns a' st') :=
    ev_not (b := true) (ev_bOf (ev_call (ev_cons rfl (ev_cons (ev_e2 rfl rfl (ix_tup (i := 0) rfl)) (ev_cons (ev_e2 rfl rfl (ix_tup (i := 1) rfl)) (ev_cons (ev_e2 rfl rfl (ix_tup (i := 2) rfl)) rfl)))) isb))
  have t3 : (bOf (e2 kNe (eCallN 1 F_relations (aCons (eVar 4) aNil)) (eVar 5))) [.no, .im (.mu 0), s2, .im (eW ways), .im (eW ways), .im (.tup [eT zeros, eT makers, eT back])] (penC ns a' st') = some (false, penC ns a' st') :=
    ev_bOf (ev_e2 (ev_call (ev_cons rfl rfl) rel) rfl (kNe_same (by
      have a1 := ok_eT 57 zeros
      have a2 := ok_eT 57 makers
      have a3 := ok_eT 57 back
      simp [okD, okDs, a1, a2, a3])))
  refine ⟨.im (eW ways), .im (eW ways), .im (.tup [eT zeros, eT makers, eT back]), a', st', (ev_seq (ev_set (ev_call (ev_cons rfl rfl) h1))).trans ((ev_seq (ev_set (ev_asD (ev_asL (ds := ways.map tupI) rfl)))).trans ((ev_seq (ev_set (ev_call (ev_cons rfl rfl) rel))).trans ((ev_seq ((ev_ifF t1).trans rfl)).trans ((ev_seq ((ev_ifF t2).trans rfl)).trans ((ev_ifF t3).trans rfl))))), h6, h7⟩
theorem law_true (ns : List Int) (hn : ns.length ≤ 63) : R_law ns := by
  obtain ⟨u3, u4, u5, a1, st1, w1, w2, w3⟩ := ev_lawturn (ns := ns) (a := 0) (st := 0) (s2 := .im (.int 0)) (s3 := .no) (s4 := .no) (s5 := .no) hn (by decide) (by decide)
  obtain ⟨v3, v4, v5, a2, st2, x1, x2, x3⟩ := ev_lawturn (ns := ns) (a := a1) (st := st1) (s2 := .im (.int 1)) (s3 := u3) (s4 := u4) (s5 := u5) hn (by omega) w3
  obtain ⟨y3, y4, y5, a3, st3, z1, z2, z3⟩ := ev_lawturn (ns := ns) (a := a2) (st := st2) (s2 := .im (.int 2)) (s3 := v3) (s4 := v4) (s5 := v5) hn (by omega) x3
  have loop : forGo (gSet 2) lB ([.int 0, .int 1, .int 2]) [.no, .im (.mu 0), .no, .no, .no, .no] (penC ns 0 0) = some (.nx [.no, .im (.mu 0), .im (.int 2), y3, y4, y5], penC ns a3 st3) :=
    forGo_cons rfl w1 (forGo_cons rfl x1 (forGo_cons rfl z1 rfl))
  have rg : lRng1 (eK (.int 3)) [.no, .im (.mu 0), .no, .no, .no, .no] (penC ns 0 0) = some ([.int 0, .int 1, .int 2], penC ns 0 0) := ev_rng1 (n := 3) rfl (by decide)
  exact ⟨penC ns a3 st3, (ev_seq ((ev_for rg).trans loop)).trans (ev_ret rfl)⟩
end K62


set_option maxRecDepth 100000
set_option maxHeartbeats 0
namespace K62
open PySem PySem.Spec PyProof.Rows L2 Ht
def dd_unit : He.DefD := ⟨("unit", none), "unit", "unit", defArgs s_unit, defBody s_unit, defScope s_unit, [], []⟩
def dd_less_times : He.DefD := ⟨("less_times", none), "less_times", "less_times", defArgs s_less_times, defBody s_less_times, defScope s_less_times, [], []⟩
def dd_lead : He.DefD := ⟨("lead", none), "lead", "lead", defArgs s_lead, defBody s_lead, defScope s_lead, [], []⟩
def dd_gathered : He.DefD := ⟨("gathered", none), "gathered", "gathered", defArgs s_gathered, defBody s_gathered, defScope s_gathered, [], []⟩
def dd_positive : He.DefD := ⟨("positive", none), "positive", "positive", defArgs s_positive, defBody s_positive, defScope s_positive, [], []⟩
def dd_lowered : He.DefD := ⟨("lowered", none), "lowered", "lowered", defArgs s_lowered, defBody s_lowered, defScope s_lowered, [], []⟩
def dd_stairs : He.DefD := ⟨("stairs", none), "stairs", "stairs", defArgs s_stairs, defBody s_stairs, defScope s_stairs, [], []⟩
def dd_basis_of : He.DefD := ⟨("basis_of", none), "basis_of", "basis_of", defArgs s_basis_of, defBody s_basis_of, defScope s_basis_of, [], []⟩
def dd_relations : He.DefD := ⟨("relations", none), "relations", "relations", defArgs s_relations, defBody s_relations, defScope s_relations, [], []⟩
def dd__law_draw : He.DefD := ⟨("_law_draw", none), "_law_draw", "_law_draw", defArgs s__law_draw, defBody s__law_draw, defScope s__law_draw, [], []⟩
def dd__law_is_table : He.DefD := ⟨("_law_is_table", none), "_law_is_table", "_law_is_table", defArgs s__law_is_table, defBody s__law_is_table, defScope s__law_is_table, [], []⟩
def dd__law_rank : He.DefD := ⟨("_law_rank", none), "_law_rank", "_law_rank", defArgs s__law_rank, defBody s__law_rank, defScope s__law_rank, [], []⟩
def dd__law_place : He.DefD := ⟨("_law_place", none), "_law_place", "_law_place", defArgs s__law_place, defBody s__law_place, defScope s__law_place, [], []⟩
def dd__law_is_basis : He.DefD := ⟨("_law_is_basis", none), "_law_is_basis", "_law_is_basis", defArgs s__law_is_basis, defBody s__law_is_basis, defScope s__law_is_basis, [], []⟩
def dd__law_steps : He.DefD := ⟨("_law_steps", none), "_law_steps", "_law_steps", defArgs s__law_steps, defBody s__law_steps, defScope s__law_steps, [], []⟩
def dd__law_pen : He.DefD := ⟨("_law_pen", none), "_law_pen", "_law_pen", defArgs s__law_pen, defBody s__law_pen, defScope s__law_pen, [], []⟩
def dd_law : He.DefD := ⟨("law", none), "law", "law", defArgs s_law, defBody s_law, defScope s_law, [], []⟩
def fnL : List He.DefD := [dd_unit, dd_less_times, dd_lead, dd_gathered, dd_positive, dd_lowered, dd_stairs, dd_basis_of, dd_relations, dd__law_draw, dd__law_is_table, dd__law_rank, dd__law_place, dd__law_is_basis, dd__law_steps, dd__law_pen, dd_law]
def faL : List He.Fa := [.glo "unit", .glo "less_times", .glo "lead", .glo "gathered", .glo "positive", .glo "lowered", .glo "stairs", .glo "basis_of", .glo "relations", .glo "_law_draw", .glo "_law_is_table", .glo "_law_rank", .glo "_law_place", .glo "_law_is_basis", .glo "_law_steps", .glo "_law_pen", .glo "law", .free "len", .free "abs", .free "int", .free "sum", .free "max", .free "min", .free "list", .free "tuple", .free "zip", .free "range", .free "enumerate", .free "isinstance", .free "sorted", .free "set", .free "bool", .free "all", .free "any", .free "repr", .free "str", .free "dict"]
abbrev Rr : PySem.W.OpenRow := PySem.W.OpenLaw.row PySem.Challenge.rw_hiddenturns_k62_relations_have_a_basis
abbrev hkL : PySem.W.Hook := He.hookD 4 faL fnL
def obL (s : PySem.W.SharedT) : He.AlD := He.obsDG 4 faL fnL (HandSHeadRun.getT s)
theorem obL_eq (s : PySem.W.SharedT) : obL s = hkL.obs s.abs := He.obsDG_eq (HandSHeadRun.getT_eq s)
def looseL : List Str := ["unit", "less_times", "lead", "gathered", "positive", "lowered", "stairs", "basis_of", "relations", "_law_draw", "_law_is_table", "_law_rank", "_law_place", "_law_is_basis", "_law_steps", "_law_pen"]
theorem runL (w : World) : HandSHeadRun.RunEq Rr (PySem.W.view Rr.prog [20]) hkL obL 4000 looseL w := by
  intro os
  kernel_rfl
theorem facts {w : World} {K : PySem.W.Frag} {h : Heap} {mg : Str → Option Value} {f : Addr} (X : K.In h) (G : h.Ns mainGlobals mg) (hfa : mg ("law" : Str) = some (.ref f)) (c : He.SaysD faL fnL K) :
    ∃ fd : FuncData, (∀ (s : Shared) (v : Value), BindsTo s fd ⟨[v], []⟩ [("_law_script", v)]) ∧ ∀ base : Heap, K.In base → base.Ns mainGlobals mg → base.NoSeer → FnOk prog w K mg base CX0 60 f fd ["_law_script"] (spLaw K R_law) := by
  obtain ⟨fd_unit, U_unit⟩ := c.def_ 0 (d := dd_unit) rfl
  have D_unit : Fun K "unit" "unit" s_unit (He.fAd K ("unit", none)) fd_unit := He5.fun_of U_unit
  have B_unit : Binds K fd_unit ["n"] [] := FunD.bindsN U_unit fun _ _ _ _ _ _ us hl => match us, hl with | [_], _ => rfl
  have M_unit : mg ("unit" : Str) = some (.ref (He.fAd K ("unit", none))) := He.glo_ok X G (c.fact 0 (f := .glo "unit") rfl)
  obtain ⟨fd_less_times, U_less_times⟩ := c.def_ 1 (d := dd_less_times) rfl
  have D_less_times : Fun K "less_times" "less_times" s_less_times (He.fAd K ("less_times", none)) fd_less_times := He5.fun_of U_less_times
  have B_less_times : Binds K fd_less_times ["row", "times", "other"] [] := FunD.bindsN U_less_times fun _ _ _ _ _ _ us hl => match us, hl with | [_, _, _], _ => rfl
  have M_less_times : mg ("less_times" : Str) = some (.ref (He.fAd K ("less_times", none))) := He.glo_ok X G (c.fact 1 (f := .glo "less_times") rfl)
  obtain ⟨fd_lead, U_lead⟩ := c.def_ 2 (d := dd_lead) rfl
  have D_lead : Fun K "lead" "lead" s_lead (He.fAd K ("lead", none)) fd_lead := He5.fun_of U_lead
  have B_lead : Binds K fd_lead ["row"] [] := FunD.bindsN U_lead fun _ _ _ _ _ _ us hl => match us, hl with | [_], _ => rfl
  have M_lead : mg ("lead" : Str) = some (.ref (He.fAd K ("lead", none))) := He.glo_ok X G (c.fact 2 (f := .glo "lead") rfl)
  obtain ⟨fd_gathered, U_gathered⟩ := c.def_ 3 (d := dd_gathered) rfl
  have D_gathered : Fun K "gathered" "gathered" s_gathered (He.fAd K ("gathered", none)) fd_gathered := He5.fun_of U_gathered
  have B_gathered : Binds K fd_gathered ["lines", "j"] [] := FunD.bindsN U_gathered fun _ _ _ _ _ _ us hl => match us, hl with | [_, _], _ => rfl
  have M_gathered : mg ("gathered" : Str) = some (.ref (He.fAd K ("gathered", none))) := He.glo_ok X G (c.fact 3 (f := .glo "gathered") rfl)
  obtain ⟨fd_positive, U_positive⟩ := c.def_ 4 (d := dd_positive) rfl
  have D_positive : Fun K "positive" "positive" s_positive (He.fAd K ("positive", none)) fd_positive := He5.fun_of U_positive
  have B_positive : Binds K fd_positive ["line", "j"] [] := FunD.bindsN U_positive fun _ _ _ _ _ _ us hl => match us, hl with | [_, _], _ => rfl
  have M_positive : mg ("positive" : Str) = some (.ref (He.fAd K ("positive", none))) := He.glo_ok X G (c.fact 4 (f := .glo "positive") rfl)
  obtain ⟨fd_lowered, U_lowered⟩ := c.def_ 5 (d := dd_lowered) rfl
  have D_lowered : Fun K "lowered" "lowered" s_lowered (He.fAd K ("lowered", none)) fd_lowered := He5.fun_of U_lowered
  have B_lowered : Binds K fd_lowered ["found", "line"] [] := FunD.bindsN U_lowered fun _ _ _ _ _ _ us hl => match us, hl with | [_, _], _ => rfl
  have M_lowered : mg ("lowered" : Str) = some (.ref (He.fAd K ("lowered", none))) := He.glo_ok X G (c.fact 5 (f := .glo "lowered") rfl)
  obtain ⟨fd_stairs, U_stairs⟩ := c.def_ 6 (d := dd_stairs) rfl
  have D_stairs : Fun K "stairs" "stairs" s_stairs (He.fAd K ("stairs", none)) fd_stairs := He5.fun_of U_stairs
  have B_stairs : Binds K fd_stairs ["rows"] [] := FunD.bindsN U_stairs fun _ _ _ _ _ _ us hl => match us, hl with | [_], _ => rfl
  have M_stairs : mg ("stairs" : Str) = some (.ref (He.fAd K ("stairs", none))) := He.glo_ok X G (c.fact 6 (f := .glo "stairs") rfl)
  obtain ⟨fd_basis_of, U_basis_of⟩ := c.def_ 7 (d := dd_basis_of) rfl
  have D_basis_of : Fun K "basis_of" "basis_of" s_basis_of (He.fAd K ("basis_of", none)) fd_basis_of := He5.fun_of U_basis_of
  have B_basis_of : Binds K fd_basis_of ["steps"] [] := FunD.bindsN U_basis_of fun _ _ _ _ _ _ us hl => match us, hl with | [_], _ => rfl
  have M_basis_of : mg ("basis_of" : Str) = some (.ref (He.fAd K ("basis_of", none))) := He.glo_ok X G (c.fact 7 (f := .glo "basis_of") rfl)
  obtain ⟨fd_relations, U_relations⟩ := c.def_ 8 (d := dd_relations) rfl
  have D_relations : Fun K "relations" "relations" s_relations (He.fAd K ("relations", none)) fd_relations := He5.fun_of U_relations
  have B_relations : Binds K fd_relations ["steps"] [] := FunD.bindsN U_relations fun _ _ _ _ _ _ us hl => match us, hl with | [_], _ => rfl
  have M_relations : mg ("relations" : Str) = some (.ref (He.fAd K ("relations", none))) := He.glo_ok X G (c.fact 8 (f := .glo "relations") rfl)
  obtain ⟨fd__law_draw, U__law_draw⟩ := c.def_ 9 (d := dd__law_draw) rfl
  have D__law_draw : Fun K "_law_draw" "_law_draw" s__law_draw (He.fAd K ("_law_draw", none)) fd__law_draw := He5.fun_of U__law_draw
  have B__law_draw : Binds K fd__law_draw ["_law_pen_here", "_law_many"] [] := FunD.bindsN U__law_draw fun _ _ _ _ _ _ us hl => match us, hl with | [_, _], _ => rfl
  have M__law_draw : mg ("_law_draw" : Str) = some (.ref (He.fAd K ("_law_draw", none))) := He.glo_ok X G (c.fact 9 (f := .glo "_law_draw") rfl)
  obtain ⟨fd__law_is_table, U__law_is_table⟩ := c.def_ 10 (d := dd__law_is_table) rfl
  have D__law_is_table : Fun K "_law_is_table" "_law_is_table" s__law_is_table (He.fAd K ("_law_is_table", none)) fd__law_is_table := He5.fun_of U__law_is_table
  have B__law_is_table : Binds K fd__law_is_table ["_law_part", "_law_many"] [] := FunD.bindsN U__law_is_table fun _ _ _ _ _ _ us hl => match us, hl with | [_, _], _ => rfl
  have M__law_is_table : mg ("_law_is_table" : Str) = some (.ref (He.fAd K ("_law_is_table", none))) := He.glo_ok X G (c.fact 10 (f := .glo "_law_is_table") rfl)
  obtain ⟨fd__law_rank, U__law_rank⟩ := c.def_ 11 (d := dd__law_rank) rfl
  have D__law_rank : Fun K "_law_rank" "_law_rank" s__law_rank (He.fAd K ("_law_rank", none)) fd__law_rank := He5.fun_of U__law_rank
  have B__law_rank : Binds K fd__law_rank ["_law_rows"] [] := FunD.bindsN U__law_rank fun _ _ _ _ _ _ us hl => match us, hl with | [_], _ => rfl
  have M__law_rank : mg ("_law_rank" : Str) = some (.ref (He.fAd K ("_law_rank", none))) := He.glo_ok X G (c.fact 11 (f := .glo "_law_rank") rfl)
  obtain ⟨fd__law_place, U__law_place⟩ := c.def_ 12 (d := dd__law_place) rfl
  have D__law_place : Fun K "_law_place" "_law_place" s__law_place (He.fAd K ("_law_place", none)) fd__law_place := He5.fun_of U__law_place
  have B__law_place : Binds K fd__law_place ["_law_ways", "_law_row"] [] := FunD.bindsN U__law_place fun _ _ _ _ _ _ us hl => match us, hl with | [_, _], _ => rfl
  have M__law_place : mg ("_law_place" : Str) = some (.ref (He.fAd K ("_law_place", none))) := He.glo_ok X G (c.fact 12 (f := .glo "_law_place") rfl)
  obtain ⟨fd__law_is_basis, U__law_is_basis⟩ := c.def_ 13 (d := dd__law_is_basis) rfl
  have D__law_is_basis : Fun K "_law_is_basis" "_law_is_basis" s__law_is_basis (He.fAd K ("_law_is_basis", none)) fd__law_is_basis := He5.fun_of U__law_is_basis
  have B__law_is_basis : Binds K fd__law_is_basis ["_law_ways", "_law_rows", "_law_others", "_law_back"] [] := FunD.bindsN U__law_is_basis fun _ _ _ _ _ _ us hl => match us, hl with | [_, _, _, _], _ => rfl
  have M__law_is_basis : mg ("_law_is_basis" : Str) = some (.ref (He.fAd K ("_law_is_basis", none))) := He.glo_ok X G (c.fact 13 (f := .glo "_law_is_basis") rfl)
  obtain ⟨fd__law_steps, U__law_steps⟩ := c.def_ 14 (d := dd__law_steps) rfl
  have D__law_steps : Fun K "_law_steps" "_law_steps" s__law_steps (He.fAd K ("_law_steps", none)) fd__law_steps := He5.fun_of U__law_steps
  have B__law_steps : Binds K fd__law_steps ["_law_pen_here"] [] := FunD.bindsN U__law_steps fun _ _ _ _ _ _ us hl => match us, hl with | [_], _ => rfl
  have M__law_steps : mg ("_law_steps" : Str) = some (.ref (He.fAd K ("_law_steps", none))) := He.glo_ok X G (c.fact 14 (f := .glo "_law_steps") rfl)
  obtain ⟨fd__law_pen, U__law_pen⟩ := c.def_ 15 (d := dd__law_pen) rfl
  have D__law_pen : Fun K "_law_pen" "_law_pen" s__law_pen (He.fAd K ("_law_pen", none)) fd__law_pen := He5.fun_of U__law_pen
  have B__law_pen : Binds K fd__law_pen ["_law_script"] [] := FunD.bindsN U__law_pen fun _ _ _ _ _ _ us hl => match us, hl with | [_], _ => rfl
  have M__law_pen : mg ("_law_pen" : Str) = some (.ref (He.fAd K ("_law_pen", none))) := He.glo_ok X G (c.fact 15 (f := .glo "_law_pen") rfl)
  obtain ⟨fd_law, U_law⟩ := c.def_ 16 (d := dd_law) rfl
  have D_law : Fun K "law" "law" s_law (He.fAd K ("law", none)) fd_law := He5.fun_of U_law
  have B_law : Binds K fd_law ["_law_script"] [] := FunD.bindsN U_law fun _ _ _ _ _ _ us hl => match us, hl with | [_], _ => rfl
  have M_law : mg ("law" : Str) = some (.ref (He.fAd K ("law", none))) := He.glo_ok X G (c.fact 16 (f := .glo "law") rfl)
  have W_relations : KwAll K fd_relations ["steps"] ["steps"] := kw_of U_relations fun _ _ _ _ _ _ us hl => match us, hl with | [_], _ => rfl
  have T : Bt mg := ⟨He.free_ok X G (c.fact 17 (f := .free "len") rfl), He.free_ok X G (c.fact 18 (f := .free "abs") rfl), He.free_ok X G (c.fact 19 (f := .free "int") rfl), He.free_ok X G (c.fact 20 (f := .free "sum") rfl), He.free_ok X G (c.fact 21 (f := .free "max") rfl), He.free_ok X G (c.fact 22 (f := .free "min") rfl), He.free_ok X G (c.fact 23 (f := .free "list") rfl), He.free_ok X G (c.fact 24 (f := .free "tuple") rfl), He.free_ok X G (c.fact 25 (f := .free "zip") rfl), He.free_ok X G (c.fact 26 (f := .free "range") rfl), He.free_ok X G (c.fact 27 (f := .free "enumerate") rfl), He.free_ok X G (c.fact 28 (f := .free "isinstance") rfl), He.free_ok X G (c.fact 29 (f := .free "sorted") rfl), He.free_ok X G (c.fact 30 (f := .free "set") rfl), He.free_ok X G (c.fact 31 (f := .free "bool") rfl), He.free_ok X G (c.fact 32 (f := .free "all") rfl), He.free_ok X G (c.fact 33 (f := .free "any") rfl), He.free_ok X G (c.fact 34 (f := .free "repr") rfl), He.free_ok X G (c.fact 35 (f := .free "str") rfl), He.free_ok X G (c.fact 36 (f := .free "dict") rfl)⟩
  have ef := hfa.symm.trans M_law
  cases ef
  refine ⟨fd_law, fun s v => FunD.bindsA (ps := ["_law_script"]) U_law (fun _ _ _ _ _ _ us hl => match us, hl with | [_], _ => rfl) s [v] rfl, fun base _ _ Se => ?_⟩
  have G_unit : ∀ k, 41 ≤ k → FnOk prog w K mg base CX0 k (He.fAd K ("unit", none)) fd_unit ["n"] (spD K 1 F_unit) := fun k hk => by
    obtain ⟨j, rfl⟩ : ∃ j, k = j + 1 := ⟨k - 1, by omega⟩
    exact ok_unit (by omega) T Se rfl D_unit
  have G_less_times : ∀ k, 41 ≤ k → FnOk prog w K mg base CX0 k (He.fAd K ("less_times", none)) fd_less_times ["row", "times", "other"] (spD K 3 F_less_times) := fun k hk => by
    obtain ⟨j, rfl⟩ : ∃ j, k = j + 1 := ⟨k - 1, by omega⟩
    exact ok_less_times (by omega) T Se rfl D_less_times
  have G_lead : ∀ k, 41 ≤ k → FnOk prog w K mg base CX0 k (He.fAd K ("lead", none)) fd_lead ["row"] (spD K 1 F_lead) := fun k hk => by
    obtain ⟨j, rfl⟩ : ∃ j, k = j + 1 := ⟨k - 1, by omega⟩
    exact ok_lead (by omega) T Se rfl D_lead
  have G_positive : ∀ k, 41 ≤ k → FnOk prog w K mg base CX0 k (He.fAd K ("positive", none)) fd_positive ["line", "j"] (spD K 2 F_positive) := fun k hk => by
    obtain ⟨j, rfl⟩ : ∃ j, k = j + 1 := ⟨k - 1, by omega⟩
    exact ok_positive (by omega) T Se rfl D_positive
  have G__law_draw : ∀ k, 41 ≤ k → FnOk prog w K mg base CX0 k (He.fAd K ("_law_draw", none)) fd__law_draw ["_law_pen_here", "_law_many"] (spD K 2 F__law_draw) := fun k hk => by
    obtain ⟨j, rfl⟩ : ∃ j, k = j + 1 := ⟨k - 1, by omega⟩
    exact ok__law_draw (by omega) T Se rfl D__law_draw
  have G__law_is_table : ∀ k, 41 ≤ k → FnOk prog w K mg base CX0 k (He.fAd K ("_law_is_table", none)) fd__law_is_table ["_law_part", "_law_many"] (spD K 2 F__law_is_table) := fun k hk => by
    obtain ⟨j, rfl⟩ : ∃ j, k = j + 1 := ⟨k - 1, by omega⟩
    exact ok__law_is_table (by omega) T Se rfl D__law_is_table
  have G__law_rank : ∀ k, 41 ≤ k → FnOk prog w K mg base CX0 k (He.fAd K ("_law_rank", none)) fd__law_rank ["_law_rows"] (spD K 1 F__law_rank) := fun k hk => by
    obtain ⟨j, rfl⟩ : ∃ j, k = j + 1 := ⟨k - 1, by omega⟩
    exact ok__law_rank (by omega) T Se rfl D__law_rank
  have G__law_place : ∀ k, 41 ≤ k → FnOk prog w K mg base CX0 k (He.fAd K ("_law_place", none)) fd__law_place ["_law_ways", "_law_row"] (spD K 2 F__law_place) := fun k hk => by
    obtain ⟨j, rfl⟩ : ∃ j, k = j + 1 := ⟨k - 1, by omega⟩
    exact ok__law_place (by omega) T Se rfl D__law_place
  have G__law_pen : ∀ k, 41 ≤ k → FnOk prog w K mg base CX0 k (He.fAd K ("_law_pen", none)) fd__law_pen ["_law_script"] (spPen K) := fun k hk => by
    obtain ⟨j, rfl⟩ : ∃ j, k = j + 1 := ⟨k - 1, by omega⟩
    exact ok__law_pen T D__law_pen
  have G_gathered : ∀ k, 42 ≤ k → FnOk prog w K mg base CX0 k (He.fAd K ("gathered", none)) fd_gathered ["lines", "j"] (spD K 2 F_gathered) := fun k hk => by
    obtain ⟨j, rfl⟩ : ∃ j, k = j + 1 := ⟨k - 1, by omega⟩
    exact ok_gathered (by omega) T Se rfl D_gathered D_less_times B_less_times (G_less_times j (by omega)) M_less_times
  have G_lowered : ∀ k, 42 ≤ k → FnOk prog w K mg base CX0 k (He.fAd K ("lowered", none)) fd_lowered ["found", "line"] (spD K 2 F_lowered) := fun k hk => by
    obtain ⟨j, rfl⟩ : ∃ j, k = j + 1 := ⟨k - 1, by omega⟩
    exact ok_lowered (by omega) T Se rfl D_lowered D_lead B_lead (G_lead j (by omega)) M_lead D_less_times B_less_times (G_less_times j (by omega)) M_less_times
  have G__law_is_basis : ∀ k, 42 ≤ k → FnOk prog w K mg base CX0 k (He.fAd K ("_law_is_basis", none)) fd__law_is_basis ["_law_ways", "_law_rows", "_law_others", "_law_back"] (spD K 4 F__law_is_basis) := fun k hk => by
    obtain ⟨j, rfl⟩ : ∃ j, k = j + 1 := ⟨k - 1, by omega⟩
    exact ok__law_is_basis (by omega) T Se rfl D__law_is_basis D__law_is_table B__law_is_table (G__law_is_table j (by omega)) M__law_is_table D__law_place B__law_place (G__law_place j (by omega)) M__law_place D__law_rank B__law_rank (G__law_rank j (by omega)) M__law_rank
  have G__law_steps : ∀ k, 42 ≤ k → FnOk prog w K mg base CX0 k (He.fAd K ("_law_steps", none)) fd__law_steps ["_law_pen_here"] (spD K 1 F__law_steps) := fun k hk => by
    obtain ⟨j, rfl⟩ : ∃ j, k = j + 1 := ⟨k - 1, by omega⟩
    exact ok__law_steps (by omega) T Se rfl D__law_steps D__law_draw B__law_draw (G__law_draw j (by omega)) M__law_draw
  have G_stairs : ∀ k, 43 ≤ k → FnOk prog w K mg base CX0 k (He.fAd K ("stairs", none)) fd_stairs ["rows"] (spD K 1 F_stairs) := fun k hk => by
    obtain ⟨j, rfl⟩ : ∃ j, k = j + 1 := ⟨k - 1, by omega⟩
    exact ok_stairs (by omega) T Se rfl D_stairs D_gathered B_gathered (G_gathered j (by omega)) M_gathered D_lowered B_lowered (G_lowered j (by omega)) M_lowered D_positive B_positive (G_positive j (by omega)) M_positive D_unit B_unit (G_unit j (by omega)) M_unit
  have G_basis_of : ∀ k, 44 ≤ k → FnOk prog w K mg base CX0 k (He.fAd K ("basis_of", none)) fd_basis_of ["steps"] (spD K 1 F_basis_of) := fun k hk => by
    obtain ⟨j, rfl⟩ : ∃ j, k = j + 1 := ⟨k - 1, by omega⟩
    exact ok_basis_of (by omega) T Se rfl D_basis_of D_stairs B_stairs (G_stairs j (by omega)) M_stairs
  have G_relations : ∀ k, 45 ≤ k → FnOk prog w K mg base CX0 k (He.fAd K ("relations", none)) fd_relations ["steps"] (spD K 1 F_relations) := fun k hk => by
    obtain ⟨j, rfl⟩ : ∃ j, k = j + 1 := ⟨k - 1, by omega⟩
    exact ok_relations (by omega) T Se rfl D_relations D_basis_of B_basis_of (G_basis_of j (by omega)) M_basis_of
  exact ok_law (k := 59) (by decide) T Se rfl D_law D__law_is_basis B__law_is_basis (G__law_is_basis 59 (by decide)) M__law_is_basis D__law_steps B__law_steps (G__law_steps 59 (by decide)) M__law_steps D_relations B_relations (G_relations 59 (by decide)) M_relations W_relations D__law_pen B__law_pen (G__law_pen 59 (by decide)) M__law_pen
/-- the statement, from what the law's def says on data -/
theorem holds_of (pl : ∀ ns : List Int, ns.length ≤ 63 → R_law ns) : (PySem.Challenge.rw_hiddenturns_k62_relations_have_a_basis).Holds := by
  open PySem.W PySem.Calls in
  w_on; o_law
  refine HandSHeadRun.head_any (r := PySem.W.OpenLaw.row PySem.Challenge.rw_hiddenturns_k62_relations_have_a_basis) (q := PySem.W.view (PySem.W.OpenLaw.row PySem.Challenge.rw_hiddenturns_k62_relations_have_a_basis).prog [20]) (H := hkL) (ob := obL) (M := 4000) (loose := looseL) (d := HandSHeadRun.topDef (PySem.W.OpenLaw.row PySem.Challenge.rw_hiddenturns_k62_relations_have_a_basis).prog 20) (kwd := []) obL_eq
    (by kernel_rfl) (fun s => by kernel_rfl) runL (by kernel_rfl) (by kernel_rfl) (by kernel_rfl) (by rfl) (by first | assumption | decide +kernel) (by decide +kernel) ⟨rfl, rfl, rfl, rfl, rfl, by decide +kernel⟩ ?hw ?hc
  case hw => w_witness2
  case hc =>
    refine walk_law (l := PySem.Challenge.rw_hiddenturns_k62_relations_have_a_basis) (k := 60) (x := "_law_script") (R := R_law) rfl (by kernel_rfl) ⟨rfl, by decide, by decide⟩ (by kernel_rfl) pl ?F
    intro w mg fa h Y G hmg0
    obtain ⟨K, KX, c⟩ := Y
    have hmg : mg ("law" : PySem.Str) = some (.ref fa) := by -- ht
      have e : (HandSHeadRun.topDef (PySem.W.OpenLaw.row PySem.Challenge.rw_hiddenturns_k62_relations_have_a_basis).prog 20).name = ("law" : PySem.Str) := by kernel_rfl
      rw [← e]
      exact hmg0
    obtain ⟨fd, hb, hF⟩ := facts (w := w) KX G hmg c
    exact ⟨K, fd, KX, hb, hF⟩
end K62

theorem PySem.Challenge.cw_hiddenturns_k62_relations_have_a_basis_holds : PySem.Challenge.rw_hiddenturns_k62_relations_have_a_basis.Holds := by
  exact K62.holds_of K62.law_true
