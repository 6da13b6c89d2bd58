import PyProof.Rows.All
import HandS.ForMost
import HandS.WordsExc
import HandS.Flow
import HandS.Conv
import HandS.Style
import HandS.TupAny
import HandS.IsInst
import HandS.SortInts
import HandS.TupLe
import HandS.Wide
import HandS.Codes
import PySem.Challenge.RW_greatframes_k02_runs_told
set_option Elab.async false
set_option linter.all false
set_option maxRecDepth 100000
set_option maxHeartbeats 4000000
/-! Mirror layer, part 1: values, heap, the relation to the abstract heap of HandS, the readings of mirror terms. -/
namespace MP
open PySem PySem.Spec PyProof.Rows L2

/-- mirror values: tuples and unchanging lists are trees; what changes is an index into the mirror heap -/
inductive MV where
  | non
  | bl (b : Bool)
  | int (i : Int)
  | str (x : Str)
  | tup (l : List MV)
  | lv (l : List MV)
  | dv (ks vs : List MV)
  | fz (l : List MV)
  | ref (n : Nat)
  deriving Inhabited
inductive MO where
  | lst (l : List MV)
  | dct (kvs : List (MV × MV))
  | fdc (kvs : List (MV × MV))
  | ins (c : Nat) (fs : List (Str × MV))
  deriving Inhabited
abbrev MH := List MO
structure MX where
  c : Nat
  fs : List (Str × MV)
abbrev Lo := List (Option MV)
inductive R (α : Type) where
  | ok (a : α) (h : MH)
  | ex (e : MX) (h : MH)
  | bad
inductive SR where
  | nx (σ : Lo) (h : MH)
  | rt (v : MV) (h : MH)
  | bk (σ : Lo) (h : MH)
  | ct (σ : Lo) (h : MH)
  | ex (e : MX) (σ : Lo) (h : MH)
  | bad
abbrev EM := Lo → MH → R MV
abbrev TM := Lo → MH → R Bool
abbrev AM := Lo → MH → R (List MV)
abbrev SM := Lo → MH → SR

/-- what the mirror speaks of: the written part, where the classes stand -/
structure C where
  K : PySem.W.Frag
  ca : Nat → Addr

/-- dicts' keys -/
def mkey : MV → Option Key
  | .int i => some (.inl i)
  | .str x => some (.inr x)
  | _ => none
def RepKs : List MV → List Key → Prop
  | [], l => l = []
  | k :: r, l => ∃ k' r', l = k' :: r' ∧ mkey k = some k' ∧ RepKs r r'
/-- a dict, locked or not -/
def IsDV (o : HO) (l : List (Key × V)) : Prop := o = .dK l ∨ ∃ od, o = .frz od (.dK l)
def Vw (o o' : HO) : Prop := o = o' ∨ ∃ l, IsDV o l ∧ IsDV o' l
theorem Vw.rfl' {o : HO} : Vw o o := .inl rfl
theorem Vw.tup {xs : List V} {o : HO} (h : Vw (.tup xs) o) : o = .tup xs := by
  rcases h with h | ⟨l, h, _⟩
  · exact h.symm
  · rcases h with h | ⟨_, h⟩ <;> cases h
theorem Vw.lst {xs : List V} {o : HO} (h : Vw (.lst xs) o) : o = .lst xs := by
  rcases h with h | ⟨l, h, _⟩
  · exact h.symm
  · rcases h with h | ⟨_, h⟩ <;> cases h
theorem Vw.flst {xs : List V} {o : HO} {od : Obj} (h : Vw (.frz od (.lst xs)) o) : o = .frz od (.lst xs) := by
  rcases h with h | ⟨l, h, _⟩
  · exact h.symm
  · rcases h with h | ⟨_, h⟩ <;> cases h
theorem IsDV.inj {o : HO} {l l' : List (Key × V)} (h : IsDV o l) (h' : IsDV o l') : l = l' := by
  rcases h with rfl | ⟨_, rfl⟩ <;> rcases h' with h' | ⟨_, h'⟩ <;> cases h' <;> rfl
theorem Vw.dv {l : List (Key × V)} {o o' : HO} (h : Vw o o') (d : IsDV o l) : IsDV o' l := by
  rcases h with rfl | ⟨l', a, b⟩
  · exact d
  · rw [d.inj a]; exact b
section rep
variable (K : PySem.W.Frag) (ι β : List Addr) (H : Hp)
/-- a constant tuple of the written part -/
def KT (K : PySem.W.Frag) (a : Addr) (xs : List V) : Prop :=
  ∃ (o : Obj) (its : Array Value) (n : Nat), K.lookup a = some o ∧ o.cls = .type "tuple" ∧ o.data = .seq its n ∧ its.size ≤ sizeLine ∧ Vals xs its.toList
/-- a constant list of the written part -/
def KL (K : PySem.W.Frag) (a : Addr) (xs : List V) : Prop :=
  ∃ (o : Obj) (its : Array Value) (n : Nat), K.lookup a = some o ∧ o.cls = .type "list" ∧ o.dict = none ∧ o.data = .seq its n ∧ its.size ≤ sizeLine ∧ Vals xs its.toList
mutual
def RepV : MV → V → Prop
  | .non, v => v = .non
  | .bl b, v => v = .bl b
  | .int i, v => v = .int i
  | .str x, v => v = .str x
  | .tup l, v => ∃ a vs, v = .ref a ∧ (H a = some (.tup vs) ∧ a ∉ ι ∧ a ∉ β ∨ KT K a vs) ∧ RepVs l vs
  | .lv l, v => ∃ a vs, v = .ref a ∧ (H a = some (.lst vs) ∧ a ∉ ι ∧ a ∉ β) ∧ RepVs l vs
  | .dv ks ws, v => ∃ (a : Addr) (l : List (Key × V)), v = .ref a ∧ ((∃ o, H a = some o ∧ IsDV o l) ∧ a ∉ ι ∧ a ∉ β) ∧ RepKs ks (l.map (·.1)) ∧ RepVs ws (l.map (·.2))
  | .fz l, v => ∃ a vs, v = .ref a ∧ ((∃ o, H a = some (.frz o (.lst vs))) ∧ a ∉ ι ∧ a ∉ β ∨ KL K a vs) ∧ RepVs l vs
  | .ref n, v => ∃ a, v = .ref a ∧ ι[n]? = some a
def RepVs : List MV → List V → Prop
  | [], vs => vs = []
  | m :: l, vs => ∃ v r, vs = v :: r ∧ RepV m v ∧ RepVs l r
end
end rep

/-- the heap goes on: what was mapped stays mapped; what is tracked and not mapped stays as it is; newly mapped things are new -/
structure Fr (ι : List Addr) (H : Hp) (ι' : List Addr) (H' : Hp) : Prop where
  pre : ∃ t, ι' = ι ++ t
  keep : ∀ a o, H a = some o → a ∉ ι → ∃ o', H' a = some o' ∧ Vw o o'
  news : ∀ a, a ∈ ι' → a ∉ ι → H a = none
  frz : ∀ a o u, H a = some (.frz o u) → H' a = some (.frz o u)
theorem Vw.trans {a b d : HO} (h : Vw a b) (g : Vw b d) : Vw a d := by
  rcases h with rfl | ⟨l, h1, h2⟩
  · exact g
  · exact .inr ⟨l, h1, g.dv h2⟩
theorem Fr.refl {ι : List Addr} {H : Hp} : Fr ι H ι H := ⟨⟨[], by simp⟩, fun _ o h _ => ⟨o, h, .rfl'⟩, fun a h n => absurd h n, fun _ _ _ h => h⟩
theorem Fr.sub {ι ι' : List Addr} {H H' : Hp} (f : Fr ι H ι' H') {a : Addr} (h : a ∈ ι) : a ∈ ι' := by
  obtain ⟨t, rfl⟩ := f.pre
  exact List.mem_append_left _ h
theorem Fr.out {ι ι' : List Addr} {H H' : Hp} (f : Fr ι H ι' H') {a : Addr} {o : HO} (h : H a = some o) (n : a ∉ ι) : a ∉ ι' := fun z => by
  have := f.news a z n
  rw [h] at this; cases this
theorem Fr.trans {ι ι1 ι2 : List Addr} {H H1 H2 : Hp} (f : Fr ι H ι1 H1) (g : Fr ι1 H1 ι2 H2) : Fr ι H ι2 H2 := by
  refine ⟨?_, fun a o h n => ?_, fun a h n => ?_, fun a o u h => g.frz a o u (f.frz a o u h)⟩
  · obtain ⟨t, rfl⟩ := f.pre
    obtain ⟨u, rfl⟩ := g.pre
    exact ⟨t ++ u, by simp⟩
  · obtain ⟨o1, e1, w1⟩ := f.keep a o h n
    obtain ⟨o2, e2, w2⟩ := g.keep a o1 e1 (f.out h n)
    exact ⟨o2, e2, w1.trans w2⟩
  · by_cases z : a ∈ ι1
    · exact f.news a z n
    · have e := g.news a h z
      cases q : H a with
      | none => rfl
      | some o =>
        obtain ⟨o1, e1, _⟩ := f.keep a o q n
        rw [e1] at e; cases e
theorem Fr.get {ι ι' : List Addr} {H H' : Hp} (f : Fr ι H ι' H') {n : Nat} {a : Addr} (h : ι[n]? = some a) : ι'[n]? = some a := by
  obtain ⟨t, rfl⟩ := f.pre
  rw [List.getElem?_append_left]
  · exact h
  · exact (List.getElem?_eq_some_iff.mp h).1

/-- values go from one state to another: what may be read stays, what is mapped stays mapped -/
structure Mov (ι β : List Addr) (H : Hp) (ι' β' : List Addr) (H' : Hp) : Prop where
  out : ∀ a o, H a = some o → a ∉ ι → a ∉ β → (∃ o', H' a = some o' ∧ Vw o o') ∧ a ∉ ι' ∧ a ∉ β'
  get : ∀ (n : Nat) a, ι[n]? = some a → ι'[n]? = some a
theorem Fr.mov {ι ι' β : List Addr} {H H' : Hp} (f : Fr ι H ι' H') : Mov ι β H ι' β H' :=
  ⟨fun a o h n nb => ⟨f.keep a o h n, f.out h n, nb⟩, fun _ _ h => f.get h⟩
mutual
theorem RepV.move {K : PySem.W.Frag} {ι β ι' β' : List Addr} {H H' : Hp} (f : Mov ι β H ι' β' H') : ∀ {m : MV} {v : V}, RepV K ι β H m v → RepV K ι' β' H' m v
  | .non, _, h => by unfold RepV at h ⊢; exact h
  | .bl _, _, h => by unfold RepV at h ⊢; exact h
  | .int _, _, h => by unfold RepV at h ⊢; exact h
  | .str _, _, h => by unfold RepV at h ⊢; exact h
  | .tup l, _, h => by
    unfold RepV at h ⊢
    obtain ⟨a, vs, e, q, r⟩ := h
    refine ⟨a, vs, e, ?_, RepVs.move f r⟩
    rcases q with ⟨q, n, nb⟩ | q
    · obtain ⟨⟨o, e, w⟩, z⟩ := f.out _ _ q n nb
      exact .inl ⟨by rw [e, w.tup], z⟩
    · exact .inr q
  | .lv l, _, h => by
    unfold RepV at h ⊢
    obtain ⟨a, vs, e, ⟨q, n, nb⟩, r⟩ := h
    obtain ⟨⟨o, e', w⟩, z⟩ := f.out _ _ q n nb
    exact ⟨a, vs, e, ⟨by rw [e', w.lst], z⟩, RepVs.move f r⟩
  | .dv ks ws, _, h => by
    unfold RepV at h ⊢
    obtain ⟨a, l, e, ⟨⟨u, q, iv⟩, n, nb⟩, k, r⟩ := h
    obtain ⟨⟨o, e', w⟩, z⟩ := f.out _ _ q n nb
    exact ⟨a, l, e, ⟨⟨o, e', w.dv iv⟩, z⟩, k, RepVs.move f r⟩
  | .fz l, _, h => by
    unfold RepV at h ⊢
    obtain ⟨a, vs, e, q, r⟩ := h
    refine ⟨a, vs, e, ?_, RepVs.move f r⟩
    rcases q with ⟨⟨o, q⟩, n, nb⟩ | q
    · obtain ⟨⟨o', e', w⟩, z⟩ := f.out _ _ q n nb
      exact .inl ⟨⟨o, by rw [e', w.flst]⟩, z⟩
    · exact .inr q
  | .ref n, _, h => by
    unfold RepV at h ⊢
    obtain ⟨a, e, q⟩ := h
    exact ⟨a, e, f.get _ _ q⟩
theorem RepVs.move {K : PySem.W.Frag} {ι β ι' β' : List Addr} {H H' : Hp} (f : Mov ι β H ι' β' H') : ∀ {l : List MV} {vs : List V}, RepVs K ι β H l vs → RepVs K ι' β' H' l vs
  | [], _, h => by unfold RepVs at h ⊢; exact h
  | m :: l, _, h => by
    unfold RepVs at h ⊢
    obtain ⟨v, r, e, q, t⟩ := h
    exact ⟨v, r, e, RepV.move f q, RepVs.move f t⟩
end
theorem RepV.mono {K : PySem.W.Frag} {ι ι' β : List Addr} {H H' : Hp} (f : Fr ι H ι' H') {m : MV} {v : V} (h : RepV K ι β H m v) : RepV K ι' β H' m v := h.move f.mov
theorem RepVs.mono {K : PySem.W.Frag} {ι ι' β : List Addr} {H H' : Hp} (f : Fr ι H ι' H') {l : List MV} {vs : List V} (h : RepVs K ι β H l vs) : RepVs K ι' β H' l vs := h.move f.mov
theorem RepV.fz_iff {K : PySem.W.Frag} {ι β : List Addr} {H : Hp} {l : List MV} {v : V} (h : RepV K ι β H (.fz l) v) : ∃ a vs, v = .ref a ∧ SqL K H a vs ∧ RepVs K ι β H l vs := by
  unfold RepV at h
  obtain ⟨a, vs, e, q, r⟩ := h
  refine ⟨a, vs, e, ?_, r⟩
  rcases q with ⟨⟨o, q⟩, _⟩ | q
  · exact .inl (.inr ⟨o, q⟩)
  · exact .inr q
section
variable {K : PySem.W.Frag} {ι ι' β : List Addr} {H H' : Hp}
theorem RepVs.nil : RepVs K ι β H [] [] := by unfold RepVs; rfl
theorem RepVs.cons {m : MV} {v : V} {l : List MV} {vs : List V} (a : RepV K ι β H m v) (b : RepVs K ι β H l vs) : RepVs K ι β H (m :: l) (v :: vs) := by
  unfold RepVs; exact ⟨v, vs, rfl, a, b⟩
theorem RepVs.nil_iff {vs : List V} (h : RepVs K ι β H [] vs) : vs = [] := by unfold RepVs at h; exact h
theorem RepVs.cons_iff {m : MV} {l : List MV} {vs : List V} (h : RepVs K ι β H (m :: l) vs) : ∃ v r, vs = v :: r ∧ RepV K ι β H m v ∧ RepVs K ι β H l r := by unfold RepVs at h; exact h
theorem RepVs.length : ∀ {l : List MV} {vs : List V}, RepVs K ι β H l vs → l.length = vs.length
  | [], _, h => by rw [h.nil_iff]; rfl
  | _ :: _, _, h => by
    obtain ⟨v, r, rfl, _, t⟩ := h.cons_iff
    simp [RepVs.length t]
theorem RepVs.get : ∀ {l : List MV} {vs : List V} {i : Nat} {m : MV}, RepVs K ι β H l vs → l[i]? = some m → ∃ v, vs[i]? = some v ∧ RepV K ι β H m v
  | [], _, _, _, _, e => by simp at e
  | _ :: _, _, 0, _, h, e => by
    obtain ⟨v, r, rfl, q, _⟩ := h.cons_iff
    simp at e; subst e
    exact ⟨v, rfl, q⟩
  | _ :: _, _, i + 1, _, h, e => by
    obtain ⟨v, r, rfl, _, t⟩ := h.cons_iff
    obtain ⟨u, e2, q⟩ := RepVs.get (i := i) t (by simpa using e)
    exact ⟨u, by simpa using e2, q⟩
theorem RepVs.append : ∀ {l l' : List MV} {vs vs' : List V}, RepVs K ι β H l vs → RepVs K ι β H l' vs' → RepVs K ι β H (l ++ l') (vs ++ vs')
  | [], _, _, _, h, h' => by rw [h.nil_iff]; exact h'
  | _ :: _, _, _, _, h, h' => by
    obtain ⟨v, r, rfl, q, t⟩ := h.cons_iff
    exact .cons q (RepVs.append t h')
theorem RepVs.take : ∀ {l : List MV} {vs : List V} (n : Nat), RepVs K ι β H l vs → RepVs K ι β H (l.take n) (vs.take n)
  | _, _, 0, _ => by simp; exact .nil
  | [], _, _ + 1, h => by rw [h.nil_iff]; simp; exact .nil
  | _ :: _, _, n + 1, h => by
    obtain ⟨v, r, rfl, q, t⟩ := h.cons_iff
    simp only [List.take_succ_cons]
    exact .cons q (RepVs.take n t)
theorem RepVs.drop : ∀ {l : List MV} {vs : List V} (n : Nat), RepVs K ι β H l vs → RepVs K ι β H (l.drop n) (vs.drop n)
  | _, _, 0, h => by simpa using h
  | [], _, _ + 1, h => by rw [h.nil_iff]; simp; exact .nil
  | _ :: _, _, n + 1, h => by
    obtain ⟨v, r, rfl, q, t⟩ := h.cons_iff
    simp only [List.drop_succ_cons]
    exact RepVs.drop n t
theorem RepVs.set {m : MV} {v : V} (q : RepV K ι β H m v) : ∀ {l : List MV} {vs : List V} (i : Nat), RepVs K ι β H l vs → RepVs K ι β H (l.set i m) (vs.set i v)
  | [], _, _, h => by rw [h.nil_iff]; simp; exact .nil
  | _ :: _, _, 0, h => by
    obtain ⟨u, r, rfl, _, t⟩ := h.cons_iff
    exact .cons q t
  | _ :: _, _, i + 1, h => by
    obtain ⟨u, r, rfl, p, t⟩ := h.cons_iff
    exact .cons p (RepVs.set q i t)
theorem RepVs.reverse : ∀ {l : List MV} {vs : List V}, RepVs K ι β H l vs → RepVs K ι β H l.reverse vs.reverse
  | [], _, h => by rw [h.nil_iff]; simp; exact .nil
  | _ :: _, _, h => by
    obtain ⟨u, r, rfl, p, t⟩ := h.cons_iff
    simp only [List.reverse_cons]
    exact (RepVs.reverse t).append (.cons p .nil)
theorem RepVs.ints : ∀ {ns : List Int}, RepVs K ι β H (ns.map MV.int) (ns.map V.int)
  | [] => .nil
  | _ :: _ => .cons (by unfold RepV; rfl) RepVs.ints
theorem RepVs.of_ints : ∀ {ns : List Int} {vs : List V}, RepVs K ι β H (ns.map MV.int) vs → vs = ns.map V.int
  | [], _, h => h.nil_iff
  | n :: ns, _, h => by
    obtain ⟨v, r, rfl, p, t⟩ := RepVs.cons_iff (m := .int n) h
    unfold RepV at p
    subst p
    rw [RepVs.of_ints t]; rfl
theorem RepVs.replicate {m : MV} {v : V} (q : RepV K ι β H m v) : ∀ n : Nat, RepVs K ι β H (List.replicate n m) (List.replicate n v)
  | 0 => .nil
  | n + 1 => .cons q (RepVs.replicate q n)
theorem RepVs.flat {l : List MV} {vs : List V} (h : RepVs K ι β H l vs) : ∀ n : Nat, RepVs K ι β H (List.replicate n l).flatten (List.replicate n vs).flatten
  | 0 => .nil
  | n + 1 => h.append (RepVs.flat h n)
end

/-! ### dicts' keys -/
def RepKV (K : PySem.W.Frag) (ι β : List Addr) (H : Hp) : List (MV × MV) → List (Key × V) → Prop
  | [], l => l = []
  | (k, m) :: r, l => ∃ k' v r', l = (k', v) :: r' ∧ mkey k = some k' ∧ RepV K ι β H m v ∧ RepKV K ι β H r r'
theorem RepKV.move {K : PySem.W.Frag} {ι β ι' β' : List Addr} {H H' : Hp} (f : Mov ι β H ι' β' H') : ∀ {l : List (MV × MV)} {r : List (Key × V)}, RepKV K ι β H l r → RepKV K ι' β' H' l r
  | [], _, h => h
  | _ :: _, _, h => by
    obtain ⟨k', v, r', e, a, b, c⟩ := h
    exact ⟨k', v, r', e, a, b.move f, RepKV.move f c⟩
def RepFs (K : PySem.W.Frag) (ι β : List Addr) (H : Hp) : List (Str × MV) → List (Str × V) → Prop
  | [], l => l = []
  | (k, m) :: r, l => ∃ v r', l = (k, v) :: r' ∧ RepV K ι β H m v ∧ RepFs K ι β H r r'
theorem RepFs.move {K : PySem.W.Frag} {ι β ι' β' : List Addr} {H H' : Hp} (f : Mov ι β H ι' β' H') : ∀ {l : List (Str × MV)} {r : List (Str × V)}, RepFs K ι β H l r → RepFs K ι' β' H' l r
  | [], _, h => h
  | _ :: _, _, h => by
    obtain ⟨v, r', e, b, c⟩ := h
    exact ⟨v, r', e, b.move f, RepFs.move f c⟩

/-! ### the mirror heap -/
def RepO (c : C) (ι β : List Addr) (H : Hp) (a : Addr) : MO → Prop
  | .lst l => ∃ vs, H a = some (.lst vs) ∧ RepVs c.K ι β H l vs
  | .dct kvs => ∃ l, H a = some (.dK l) ∧ RepKV c.K ι β H kvs l
  | .fdc kvs => ∃ o l, H a = some (.frz o (.dK l)) ∧ RepKV c.K ι β H kvs l
  | .ins n fs => ∃ dx l, H a = some (.ins (c.ca n) dx l) ∧ RepFs c.K ι β H fs l
theorem RepO.some {c : C} {ι β : List Addr} {H : Hp} {a : Addr} {o : MO} (h : RepO c ι β H a o) : ∃ u, H a = some u := by
  cases o with
  | lst l => obtain ⟨vs, e, _⟩ := h; exact ⟨_, e⟩
  | dct l => obtain ⟨vs, e, _⟩ := h; exact ⟨_, e⟩
  | fdc l => obtain ⟨o, vs, e, _⟩ := h; exact ⟨_, e⟩
  | ins n fs => obtain ⟨dx, l, e, _⟩ := h; exact ⟨_, e⟩
theorem RepO.move {c : C} {ι β ι' β' : List Addr} {H H' : Hp} {a : Addr} {o : MO} (f : Mov ι β H ι' β' H') (e : H' a = H a) (h : RepO c ι β H a o) : RepO c ι' β' H' a o := by
  cases o with
  | lst l => obtain ⟨vs, q, r⟩ := h; exact ⟨vs, e.trans q, r.move f⟩
  | dct l => obtain ⟨vs, q, r⟩ := h; exact ⟨vs, e.trans q, r.move f⟩
  | fdc l => obtain ⟨o, vs, q, r⟩ := h; exact ⟨o, vs, e.trans q, r.move f⟩
  | ins n fs => obtain ⟨dx, l, q, r⟩ := h; exact ⟨dx, l, e.trans q, r.move f⟩
theorem RepO.mono {c : C} {ι ι' β : List Addr} {H H' : Hp} {a : Addr} {o : MO} (f : Fr ι H ι' H') (e : H' a = H a) (h : RepO c ι β H a o) : RepO c ι' β H' a o := h.move f.mov e
structure Rel (c : C) (ι β : List Addr) (H : Hp) (mh : MH) : Prop where
  len : mh.length = ι.length
  nd : ι.Nodup
  ban : ∀ a, a ∈ β → ∃ o, H a = some o ∧ a ∉ ι ∧ ∀ od u, o ≠ .frz od u
  obj : ∀ (n : Nat) (o : MO), mh[n]? = some o → ∃ a, ι[n]? = some a ∧ RepO c ι β H a o
section
variable {c : C} {ι ι' β : List Addr} {H H' : Hp} {mh : MH} {a p : Addr} {o : HO}
theorem Rel.at (r : Rel c ι β H mh) {n : Nat} (h : ι[n]? = some a) : ∃ o, mh[n]? = some o ∧ RepO c ι β H a o := by
  have hn : n < mh.length := by rw [r.len]; exact (List.getElem?_eq_some_iff.mp h).1
  obtain ⟨b, e, q⟩ := r.obj n mh[n] (List.getElem?_eq_getElem hn)
  rw [h] at e; cases e
  exact ⟨_, List.getElem?_eq_getElem hn, q⟩
theorem Rel.tracked (r : Rel c ι β H mh) (h : a ∈ ι) : ∃ u, H a = some u := by
  obtain ⟨n, hn, e⟩ := List.getElem_of_mem h
  obtain ⟨o, _, q⟩ := r.at (n := n) (a := a) (by rw [List.getElem?_eq_getElem hn, e])
  exact q.some
theorem Rel.fresh (r : Rel c ι β H mh) (h : H p = none) : p ∉ ι := fun z => by
  obtain ⟨u, e⟩ := r.tracked z
  rw [h] at e; cases e
/-- a new thing that isn't mapped -/
theorem Fr.lay (r : Rel c ι β H mh) (h : H p = none) : Fr ι H ι (upd H p o) :=
  ⟨⟨[], by simp⟩, fun a u e _ => ⟨u, by rw [upd_ne (ne_of_none e h)]; exact e, .rfl'⟩, fun a z n => absurd z n, fun a _ u e => by rw [upd_ne (ne_of_none e h)]; exact e⟩
theorem Rel.lay (r : Rel c ι β H mh) (h : H p = none) : Rel c ι β (upd H p o) mh := by
  refine ⟨r.len, r.nd, fun b hb => ?_, fun n u e => ?_⟩
  · obtain ⟨u, e, n, nf⟩ := r.ban b hb
    exact ⟨u, by rw [upd_ne (ne_of_none e h)]; exact e, n, nf⟩
  obtain ⟨a, e1, q⟩ := r.obj n u e
  obtain ⟨w, hw⟩ := q.some
  exact ⟨a, e1, q.mono (Fr.lay r h) (upd_ne (ne_of_none hw h))⟩
/-- a new thing, mapped -/
theorem Fr.new (r : Rel c ι β H mh) (h : H p = none) : Fr ι H (ι ++ [p]) (upd H p o) :=
  ⟨⟨[p], rfl⟩, fun a u e _ => ⟨u, by rw [upd_ne (ne_of_none e h)]; exact e, .rfl'⟩, fun a z n => by
    rcases List.mem_append.mp z with z | z
    · exact absurd z n
    · have : a = p := by simpa using z
      rw [this]; exact h, fun a _ u e => by rw [upd_ne (ne_of_none e h)]; exact e⟩
theorem Rel.new {mo : MO} (r : Rel c ι β H mh) (h : H p = none) (q : RepO c (ι ++ [p]) β (upd H p o) p mo) : Rel c (ι ++ [p]) β (upd H p o) (mh ++ [mo]) := by
  refine ⟨by simp [r.len], ?_, fun b hb => ?_, fun n u e => ?_⟩
  · refine List.nodup_append.mpr ⟨r.nd, by simp, fun a ha b hb => ?_⟩
    have : b = p := by simpa using hb
    subst this
    rintro rfl
    exact r.fresh h ha
  · obtain ⟨u, e, n, nf⟩ := r.ban b hb
    refine ⟨u, by rw [upd_ne (ne_of_none e h)]; exact e, fun z => ?_, nf⟩
    rcases List.mem_append.mp z with z | z
    · exact n z
    · have : b = p := by simpa using z
      rw [this, h] at e; cases e
  · by_cases hn : n < mh.length
    · rw [List.getElem?_append_left hn] at e
      obtain ⟨a, e1, q1⟩ := r.obj n u e
      obtain ⟨w, hw⟩ := q1.some
      refine ⟨a, ?_, q1.mono (Fr.new r h) (upd_ne (ne_of_none hw h))⟩
      rw [List.getElem?_append_left (by rw [← r.len]; exact hn)]
      exact e1
    · rw [List.getElem?_append_right (by omega)] at e
      have hz : n - mh.length = 0 := by
        have := (List.getElem?_eq_some_iff.mp e).1
        simp at this
        exact this
      rw [hz] at e
      simp at e
      subst e
      refine ⟨p, ?_, q⟩
      rw [List.getElem?_append_right (by rw [← r.len]; omega), ← r.len, hz]
      rfl
/-- a mapped thing changed -/
theorem Fr.put {n : Nat} (h : ι[n]? = some a) (nf : ∀ o u, H a ≠ some (.frz o u)) : Fr ι H ι (upd H a o) :=
  ⟨⟨[], by simp⟩, fun b u e nb => ⟨u, by
    rw [upd_ne]
    · exact e
    · rintro rfl
      exact nb (List.mem_of_getElem? h), .rfl'⟩, fun a z n => absurd z n, fun b _ u e => by
    rw [upd_ne]
    · exact e
    · rintro rfl
      exact nf _ _ e⟩
theorem Rel.put {n : Nat} {mo : MO} (r : Rel c ι β H mh) (h : ι[n]? = some a) (nf : ∀ o u, H a ≠ some (.frz o u)) (q : RepO c ι β (upd H a o) a mo) : Rel c ι β (upd H a o) (mh.set n mo) := by
  refine ⟨by simp [r.len], r.nd, fun b hb => ?_, fun m u e => ?_⟩
  · obtain ⟨u, e, n', nf'⟩ := r.ban b hb
    refine ⟨u, ?_, n', nf'⟩
    rw [upd_ne]
    · exact e
    · rintro rfl
      exact n' (List.mem_of_getElem? h)
  by_cases hm : m = n
  · subst hm
    rw [List.getElem?_set_self (by rw [r.len]; exact (List.getElem?_eq_some_iff.mp h).1)] at e
    cases e
    exact ⟨a, h, q⟩
  · rw [List.getElem?_set_ne (Ne.symm hm)] at e
    obtain ⟨b, e1, q1⟩ := r.obj m u e
    refine ⟨b, e1, q1.mono (Fr.put h nf) (upd_ne ?_)⟩
    rintro rfl
    obtain ⟨h1, e2⟩ := List.getElem?_eq_some_iff.mp e1
    obtain ⟨h2, e3⟩ := List.getElem?_eq_some_iff.mp h
    exact hm ((List.getElem_inj r.nd).mp (e2.trans e3.symm))
end

/-! ### a thing that is being built: banned -/
section
variable {c : C} {ι β : List Addr} {H : Hp} {mh : MH} {D : Addr} {o : HO}
theorem Mov.ban (h : H D = none) : Mov ι β H ι (D :: β) (upd H D o) :=
  ⟨fun a u e n nb => ⟨⟨u, by rw [upd_ne (ne_of_none e h)]; exact e, .rfl'⟩, n, fun z => by
    rcases List.mem_cons.mp z with z | z
    · exact ne_of_none e h z
    · exact nb z⟩, fun _ _ h => h⟩
theorem Rel.ban' (r : Rel c ι β H mh) (h : H D = none) (nf : ∀ od u, o ≠ .frz od u) : Rel c ι (D :: β) (upd H D o) mh := by
  refine ⟨r.len, r.nd, fun b hb => ?_, fun n u e => ?_⟩
  · rcases List.mem_cons.mp hb with rfl | hb
    · exact ⟨o, upd_same, r.fresh h, nf⟩
    · obtain ⟨u, e, n, nf'⟩ := r.ban b hb
      exact ⟨u, by rw [upd_ne (ne_of_none e h)]; exact e, n, nf'⟩
  · obtain ⟨a, e1, q⟩ := r.obj n u e
    obtain ⟨w, hw⟩ := q.some
    exact ⟨a, e1, q.move (Mov.ban h) (upd_ne (ne_of_none hw h))⟩
theorem Mov.turn : Mov ι (D :: β) H ι (D :: β) (upd H D o) :=
  ⟨fun a u e n nb => ⟨⟨u, by rw [upd_ne (fun z => nb (by rw [z]; exact List.mem_cons_self))]; exact e, .rfl'⟩, n, nb⟩, fun _ _ h => h⟩
theorem Rel.turn (r : Rel c ι (D :: β) H mh) (nf : ∀ od u, o ≠ .frz od u) : Rel c ι (D :: β) (upd H D o) mh := by
  obtain ⟨uD, eD, nD, fD⟩ := r.ban D List.mem_cons_self
  refine ⟨r.len, r.nd, fun b hb => ?_, fun n u e => ?_⟩
  · by_cases z : b = D
    · subst z
      exact ⟨o, upd_same, nD, nf⟩
    · obtain ⟨u, e, n, nf'⟩ := r.ban b hb
      exact ⟨u, by rw [upd_ne z]; exact e, n, nf'⟩
  · obtain ⟨a, e1, q⟩ := r.obj n u e
    exact ⟨a, e1, q.move Mov.turn (upd_ne (fun z => nD (by rw [← z]; exact List.mem_of_getElem? e1)))⟩
theorem Mov.free : Mov ι (D :: β) H ι β H :=
  ⟨fun a u e n nb => ⟨⟨u, e, .rfl'⟩, n, fun z => nb (List.mem_cons_of_mem _ z)⟩, fun _ _ h => h⟩
theorem Rel.free (r : Rel c ι (D :: β) H mh) : Rel c ι β H mh :=
  ⟨r.len, r.nd, fun b hb => r.ban b (List.mem_cons_of_mem _ hb), fun n u e => by
    obtain ⟨a, e1, q⟩ := r.obj n u e
    exact ⟨a, e1, q.move Mov.free rfl⟩⟩
/-- from ahead of the ban to behind it: the frame -/
theorem Fr.unban {ι' : List Addr} {H' : Hp} (r : Rel c ι β H mh) (h : H D = none) (nf : ∀ od u, o ≠ .frz od u) (f : Fr ι (upd H D o) ι' H') (f2 : ∀ a, a ∈ ι' → a ≠ D) : Fr ι H ι' H' :=
  ⟨f.pre, fun a u e n => f.keep a u (by rw [upd_ne (ne_of_none e h)]; exact e) n, fun a ha n => by
    have := f.news a ha n
    rw [upd_ne (f2 a ha)] at this
    exact this, fun a od u e => f.frz a od u (by rw [upd_ne (ne_of_none e h)]; exact e)⟩
end

/-- the locals -/
structure RepL (K : PySem.W.Frag) (ι β : List Addr) (H : Hp) (σm : Lo) (σ : L2.St) : Prop where
  len : σm.length = σ.length
  val : ∀ (i : Nat) (m : MV), σm[i]? = some (some m) → ∃ v, σ[i]? = some (some v) ∧ RepV K ι β H m v
section
variable {K : PySem.W.Frag} {ι ι' β : List Addr} {H H' : Hp} {σm : Lo} {σ : L2.St}
theorem RepL.move {β' : List Addr} (f : Mov ι β H ι' β' H') (r : RepL K ι β H σm σ) : RepL K ι' β' H' σm σ := ⟨r.len, fun i m e => by
  obtain ⟨v, e1, q⟩ := r.val i m e
  exact ⟨v, e1, q.move f⟩⟩
theorem RepL.mono (f : Fr ι H ι' H') (r : RepL K ι β H σm σ) : RepL K ι' β H' σm σ := ⟨r.len, fun i m e => by
  obtain ⟨v, e1, q⟩ := r.val i m e
  exact ⟨v, e1, q.mono f⟩⟩
theorem RepL.set {i : Nat} {m : MV} {v : V} (r : RepL K ι β H σm σ) (q : RepV K ι β H m v) : RepL K ι β H (σm.set i (some m)) (σ.set i (some v)) := by
  refine ⟨by simp [r.len], fun j m' e => ?_⟩
  by_cases hj : j = i
  · subst hj
    have hlt : j < σm.length := by
      have := (List.getElem?_eq_some_iff.mp e).1
      simpa using this
    rw [List.getElem?_set_self hlt] at e
    cases e
    exact ⟨v, List.getElem?_set_self (by rw [← r.len]; exact hlt), q⟩
  · rw [List.getElem?_set_ne (Ne.symm hj)] at e
    obtain ⟨v', e1, q1⟩ := r.val j m' e
    exact ⟨v', by rw [List.getElem?_set_ne (Ne.symm hj)]; exact e1, q1⟩
theorem RepL.clear (vs : List Nat) (r : RepL K ι β H σm σ) : RepL K ι β H (vs.foldr (fun i l => l.set i none) σm) (wipe σ vs) := by
  induction vs with
  | nil => exact r
  | cons i vs ih =>
    refine ⟨by simp [ih.len, wipe, wipe_length], fun j m e => ?_⟩
    by_cases hj : j = i
    · subst hj
      simp only [List.foldr_cons] at e
      rw [List.getElem?_set] at e
      simp at e
    · simp only [List.foldr_cons] at e
      rw [List.getElem?_set_ne (Ne.symm hj)] at e
      obtain ⟨v, e1, q⟩ := ih.val j m e
      exact ⟨v, by show (wipe σ (i :: vs))[j]? = _; unfold wipe; rw [List.getElem?_set_ne (Ne.symm hj)]; exact e1, q⟩
end
end MP

/-! Mirror layer, part 2: readings of mirror terms; expressions, tests, statements. -/
namespace MP
open PySem PySem.Spec PyProof.Rows L2
abbrev St := L2.St

/-- an own exception that flies: its class, its own dict -/
def RepX (c : C) (ι β : List Addr) (H : Hp) (e : MX) (cls : Value) (d : Option Addr) : Prop :=
  cls = .ref (c.ca e.c) ∧ match e.fs with
    | [] => d = none
    | fs => ∃ dd gs, d = some dd ∧ H dd = some (.xd gs) ∧ dd ∉ ι ∧ RepFs c.K ι β H fs gs
section post
variable {α γ δ : Type}
/-- what is wanted of a mirror result -/
def Post (c : C) (ι β : List Addr) (H : Hp) (Rp : List Addr → List Addr → Hp → α → δ → Prop) (Q : δ → Hp → Prop) (W : Value → Option Addr → Hp → Prop) : R α → Prop
  | .ok a h => ∀ ι' H' b, Fr ι H ι' H' → Rel c ι' β H' h → Rp ι' β H' a b → Q b H'
  | .ex e h => ∀ ι' H' cls d, Fr ι H ι' H' → Rel c ι' β H' h → RepX c ι' β H' e cls d → W cls d H'
  | .bad => False
def bindR (x : R α) (k : α → MH → R γ) : R γ :=
  match x with
  | .ok a h => k a h
  | .ex e h => .ex e h
  | .bad => .bad
def tR (c : C) (W : WX) (Rp : List Addr → List Addr → Hp → α → δ → Prop) (r : Lo → MH → R α) : St → Hp → (δ → Hp → Prop) → Prop := fun σ H Q =>
  ∃ ι β mh σm, Rel c ι β H mh ∧ RepL c.K ι β H σm σ ∧ Post c ι β H Rp Q (fun cls d H' => W cls d σ H') (r σm mh)
theorem tR.mono {c : C} {W : WX} {Rp : List Addr → List Addr → Hp → α → δ → Prop} {r : Lo → MH → R α} {σ : St} {H : Hp} {Q Q' : δ → Hp → Prop} (h : tR c W Rp r σ H Q) (hq : ∀ b H', Q b H' → Q' b H') : tR c W Rp r σ H Q' := by
  obtain ⟨ι, β, mh, σm, rel, rl, p⟩ := h
  refine ⟨ι, β, mh, σm, rel, rl, ?_⟩
  cases e : r σm mh with
  | ok a h => rw [e] at p; exact fun ι' H' b f r q => hq _ _ (p ι' H' b f r q)
  | ex x h => rw [e] at p; exact p
  | bad => rw [e] at p; exact p
theorem Post.fr {c : C} {ι ι1 β : List Addr} {H H1 : Hp} {Rp : List Addr → List Addr → Hp → α → δ → Prop} {Q : δ → Hp → Prop} {W : Value → Option Addr → Hp → Prop} {x : R α} (f : Fr ι H ι1 H1) (h : Post c ι β H Rp Q W x) : Post c ι1 β H1 Rp Q W x := by
  cases x with
  | ok a h' => exact fun ι' H' b g r q => h ι' H' b (f.trans g) r q
  | ex e h' => exact fun ι' H' b d g r q => h ι' H' b d (f.trans g) r q
  | bad => exact h
/-- one part is run, the rest is told -/
theorem run1 {c : C} {W : WX} {Rp : List Addr → List Addr → Hp → α → δ → Prop} {γ' : Type} {Rp' : List Addr → List Addr → Hp → γ → γ' → Prop} {ι β : List Addr} {H : Hp} {mh : MH} {σm : Lo} {σ : St} {ra : Lo → MH → R α} {k : α → MH → R γ} {Q : γ' → Hp → Prop}
    (rel : Rel c ι β H mh) (rl : RepL c.K ι β H σm σ) (h : Post c ι β H Rp' Q (fun cls d H' => W cls d σ H') (bindR (ra σm mh) k)) :
    tR c W Rp ra σ H (fun b H1 => ∃ ι1 mh1 a, Fr ι H ι1 H1 ∧ Rel c ι1 β H1 mh1 ∧ RepL c.K ι1 β H1 σm σ ∧ Rp ι1 β H1 a b ∧ Post c ι1 β H1 Rp' Q (fun cls d H' => W cls d σ H') (k a mh1)) := by
  refine ⟨ι, β, mh, σm, rel, rl, ?_⟩
  cases e : ra σm mh with
  | ok a h' =>
    rw [e] at h
    exact fun ι' H' b f r q => ⟨ι', h', a, f, r, rl.mono f, q, Post.fr f h⟩
  | ex x h' => rw [e] at h; exact h
  | bad => rw [e] at h; exact h
end post

abbrev RV (c : C) : List Addr → List Addr → Hp → MV → V → Prop := fun ι β H => RepV c.K ι β H
abbrev RVs (c : C) : List Addr → List Addr → Hp → List MV → List V → Prop := fun ι β H => RepVs c.K ι β H
abbrev RB : List Addr → List Addr → Hp → Bool → Bool → Prop := fun _ _ _ a b => a = b
def tE (c : C) (W : WX) (r : EM) : TE := tR c W (RV c) r
def tT (c : C) (W : WX) (r : TM) : TT := tR c W RB r
def tA (c : C) (W : WX) (r : AM) : TA := tR c W (RVs c) r

/-! ### statements -/
def PostS (c : C) (ι β : List Addr) (H : Hp) (D : Ends) (W : WX) : SR → Prop
  | .nx σ1 h => ∀ ι' H' σ', Fr ι H ι' H' → Rel c ι' β H' h → RepL c.K ι' β H' σ1 σ' → D.nx σ' H'
  | .rt v h => ∀ ι' H' u, Fr ι H ι' H' → Rel c ι' β H' h → RepV c.K ι' β H' v u → D.rt u H'
  | .bk σ1 h => ∀ ι' H' σ', Fr ι H ι' H' → Rel c ι' β H' h → RepL c.K ι' β H' σ1 σ' → D.bk σ' H'
  | .ct σ1 h => ∀ ι' H' σ', Fr ι H ι' H' → Rel c ι' β H' h → RepL c.K ι' β H' σ1 σ' → D.ct σ' H'
  | .ex e σ1 h => ∀ ι' H' cls d σ', Fr ι H ι' H' → Rel c ι' β H' h → RepL c.K ι' β H' σ1 σ' → RepX c ι' β H' e cls d → W cls d σ' H'
  | .bad => False
def tS (c : C) (W : WX) (r : SM) : TS := fun D σ H =>
  ∃ ι β mh σm, Rel c ι β H mh ∧ RepL c.K ι β H σm σ ∧ PostS c ι β H D W (r σm mh)
theorem PostS.fr {c : C} {ι ι1 β : List Addr} {H H1 : Hp} {D : Ends} {W : WX} {x : SR} (f : Fr ι H ι1 H1) (h : PostS c ι β H D W x) : PostS c ι1 β H1 D W x := by
  cases x with
  | nx σ h' => exact fun ι' H' b g r q => h ι' H' b (f.trans g) r q
  | rt σ h' => exact fun ι' H' b g r q => h ι' H' b (f.trans g) r q
  | bk σ h' => exact fun ι' H' b g r q => h ι' H' b (f.trans g) r q
  | ct σ h' => exact fun ι' H' b g r q => h ι' H' b (f.trans g) r q
  | ex e σ h' => exact fun ι' H' b d s g r q => h ι' H' b d s (f.trans g) r q
  | bad => exact h
def bindS {α : Type} (x : R α) (σ : Lo) (k : α → MH → SR) : SR :=
  match x with
  | .ok a h => k a h
  | .ex e h => .ex e σ h
  | .bad => .bad
/-- a part of a statement is run -/
theorem run1S {α δ : Type} {c : C} {W : WX} {Rp : List Addr → List Addr → Hp → α → δ → Prop} {ι β : List Addr} {H : Hp} {mh : MH} {σm : Lo} {σ : St} {ra : Lo → MH → R α} {k : α → MH → SR} {D : Ends}
    (rel : Rel c ι β H mh) (rl : RepL c.K ι β H σm σ) (h : PostS c ι β H D W (bindS (ra σm mh) σm k)) :
    tR c W Rp ra σ H (fun b H1 => ∃ ι1 mh1 a, Fr ι H ι1 H1 ∧ Rel c ι1 β H1 mh1 ∧ RepL c.K ι1 β H1 σm σ ∧ Rp ι1 β H1 a b ∧ PostS c ι1 β H1 D W (k a mh1)) := by
  refine ⟨ι, β, mh, σm, rel, rl, ?_⟩
  cases e : ra σm mh with
  | ok a h' =>
    rw [e] at h
    exact fun ι' H' b f r q => ⟨ι', h', a, f, r, rl.mono f, q, PostS.fr f h⟩
  | ex x h' =>
    rw [e] at h
    exact fun ι' H' cls d f r q => h ι' H' cls d σ f r (rl.mono f) q
  | bad => rw [e] at h; exact h

/-! ### a reading that asks more will do -/
section
variable {X : Cx}
theorem _root_.L2.PE.wk {e : Expr} {t t' : TE} (h : PE X e t) (w : ∀ σ H Q, t' σ H Q → t σ H Q) : PE X e t' := ⟨fun pins s σ H Q I q => h.run pins s σ H Q I (w σ H Q q)⟩
theorem _root_.L2.PT.wk {e : Expr} {t t' : TT} (h : PT X e t) (w : ∀ σ H Q, t' σ H Q → t σ H Q) : PT X e t' := ⟨fun pins s σ H Q I q => h.run pins s σ H Q I (w σ H Q q)⟩
theorem _root_.L2.PW.wk {e : Expr} {t t' : TT} (h : PW X e t) (w : ∀ σ H Q, t' σ H Q → t σ H Q) : PW X e t' := ⟨fun wh pins s σ H Q I q => h.run wh pins s σ H Q I (w σ H Q q)⟩
theorem _root_.L2.PA.wk {es : List Expr} {t t' : TA} (h : PA X es t) (w : ∀ σ H Q, t' σ H Q → t σ H Q) : PA X es t' := ⟨fun pos pins s σ H Q I q => h.run pos pins s σ H Q I (w σ H Q q)⟩
theorem _root_.L2.PS.wk {st : Stmt} {t t' : TS} (h : PS X st t) (w : ∀ D σ H, t' D σ H → t D σ H) : PS X st t' := ⟨fun pins s σ H D I q => h.run pins s σ H D I (w D σ H q)⟩
theorem _root_.L2.PSs.wk {st : List Stmt} {t t' : TS} (h : PSs X st t) (w : ∀ D σ H, t' D σ H → t D σ H) : PSs X st t' := ⟨fun pins s σ H D I q => h.run pins s σ H D I (w D σ H q)⟩

/-! ### names, constants -/
@[simp] def mVar (i : Nat) : EM := fun σ h => match σ[i]? with
  | some (some m) => .ok m h
  | _ => .bad
@[simp] def mC (v : MV) : EM := fun _ h => .ok v h
variable {c : C} {W : WX}
theorem e_var (i : Nat) {x : Str} {pos : Pos} (h : PE X (.Name x pos) (tVar i)) : PE X (.Name x pos) (tE c W (mVar i)) := by
  refine h.wk fun σ H Q ⟨ι, β, mh, σm, rel, rl, p⟩ => ?_
  unfold mVar at p
  split at p
  · rename_i m e
    obtain ⟨v, e1, q⟩ := rl.val i m e
    exact ⟨v, e1, p ι H v .refl rel q⟩
  · exact p.elim
/-- a constant of any kind that stands by itself -/
theorem e_c {e : Expr} {m : MV} {v : V} (h : PE X e (tC v)) (r : ∀ ι β H, RepV c.K ι β H m v) : PE X e (tE c W (mC m)) := by
  refine h.wk fun σ H Q ⟨ι, β, mh, σm, rel, rl, p⟩ => ?_
  exact p ι H v .refl rel (r ι β H)
theorem rint {i : Int} : ∀ ι β H, RepV c.K ι β H (.int i) (.int i) := fun _ _ _ => by unfold RepV; rfl
theorem rbl {i : Bool} : ∀ ι β H, RepV c.K ι β H (.bl i) (.bl i) := fun _ _ _ => by unfold RepV; rfl
theorem rnon : ∀ ι β H, RepV c.K ι β H .non .non := fun _ _ _ => by unfold RepV; rfl
theorem rstr {i : Str} : ∀ ι β H, RepV c.K ι β H (.str i) (.str i) := fun _ _ _ => by unfold RepV; rfl
theorem rkt {l : List MV} {a : Addr} {vs : List V} (k : KT c.K a vs) (r : ∀ ι β H, RepVs c.K ι β H l vs) : ∀ ι β H, RepV c.K ι β H (.tup l) (.ref a) := fun ι β H => by
  unfold RepV; exact ⟨a, vs, rfl, .inr k, r ι β H⟩

/-! ### arguments -/
@[simp] def mNil : AM := fun _ h => .ok [] h
@[simp] def mCons (ra : EM) (rs : AM) : AM := fun σ h => bindR (ra σ h) fun a h1 => bindR (rs σ h1) fun as h2 => .ok (a :: as) h2
theorem a_nil : PA X [] (tA c W mNil) := pa_nil.wk fun σ H Q ⟨ι, β, mh, σm, rel, rl, p⟩ => p ι H [] .refl rel .nil
theorem a_cons' {e : Expr} {es : List Expr} {ra : EM} {rs : AM} {σ : St} {H : Hp} {Q : List V → Hp → Prop} (h : tA c W (mCons ra rs) σ H Q) : tCons (tE c W ra) (tA c W rs) σ H Q := by
  obtain ⟨ι, β, mh, σm, rel, rl, p⟩ := h
  refine (run1 rel rl p).mono fun x H1 ⟨ι1, mh1, a, f1, rel1, rl1, ra1, p1⟩ => ?_
  refine (run1 rel1 rl1 p1).mono fun xs H2 ⟨ι2, mh2, as, f2, rel2, rl2, ra2, p2⟩ => ?_
  exact p2 ι2 H2 (x :: xs) .refl rel2 (.cons (ra1.mono f2) ra2)
theorem a_cons {e : Expr} {es : List Expr} {ra : EM} {rs : AM} (ha : PE X e (tE c W ra)) (hs : PA X es (tA c W rs)) (he : starEach (e :: es) X.env = (false, eval e X.env) :: starEach es X.env := by rfl) : PA X (e :: es) (tA c W (mCons ra rs)) :=
  (pa_cons ha hs he).wk fun σ H Q h => a_cons' (e := e) (es := es) h

/-! ### operations by values -/
/-- a mirror operation on values keeps a reading by values -/
def P1 (c : C) (r : V → Hp → VK → Prop) (f : MV → MH → R MV) : Prop := ∀ ι β H mh a x Q W, Rel c ι β H mh → RepV c.K ι β H a x → Post c ι β H (RV c) Q W (f a mh) → r x H Q
def P2 (c : C) (r : R2) (f : MV → MV → MH → R MV) : Prop := ∀ ι β H mh a b x y Q W, Rel c ι β H mh → RepV c.K ι β H a x → RepV c.K ι β H b y → Post c ι β H (RV c) Q W (f a b mh) → r x y H Q
def PN (c : C) (r : List V → Hp → VK → Prop) (f : List MV → MH → R MV) : Prop := ∀ ι β H mh as xs Q W, Rel c ι β H mh → RepVs c.K ι β H as xs → Post c ι β H (RV c) Q W (f as mh) → r xs H Q
@[simp] def m1 (f : MV → MH → R MV) (ra : EM) : EM := fun σ h => bindR (ra σ h) f
@[simp] def m2 (f : MV → MV → MH → R MV) (ra rb : EM) : EM := fun σ h => bindR (ra σ h) fun a h1 => bindR (rb σ h1) fun b h2 => f a b h2
@[simp] def mN (f : List MV → MH → R MV) (rs : AM) : EM := fun σ h => bindR (rs σ h) f
theorem m1_of {r : V → Hp → VK → Prop} {f : MV → MH → R MV} {ra : EM} (hp : P1 c r f) {σ : St} {H : Hp} {Q : VK} (h : tE c W (m1 f ra) σ H Q) : tUn r (tE c W ra) σ H Q := by
  obtain ⟨ι, β, mh, σm, rel, rl, p⟩ := h
  exact (run1 rel rl p).mono fun x H1 ⟨ι1, mh1, a, f1, rel1, rl1, ra1, p1⟩ => hp _ _ _ _ _ _ _ _ rel1 ra1 p1
theorem m2_of {r : R2} {f : MV → MV → MH → R MV} {ra rb : EM} (hp : P2 c r f) {σ : St} {H : Hp} {Q : VK} (h : tE c W (m2 f ra rb) σ H Q) : tOp r (tE c W ra) (tE c W rb) σ H Q := by
  obtain ⟨ι, β, mh, σm, rel, rl, p⟩ := h
  refine (run1 rel rl p).mono fun x H1 ⟨ι1, mh1, a, f1, rel1, rl1, ra1, p1⟩ => ?_
  exact (run1 rel1 rl1 p1).mono fun y H2 ⟨ι2, mh2, b, f2, rel2, rl2, ra2, p2⟩ => hp _ _ _ _ _ _ _ _ _ _ rel2 (ra1.mono f2) ra2 p2
theorem mN_of {r : List V → Hp → VK → Prop} {f : List MV → MH → R MV} {rs : AM} (hp : PN c r f) {σ : St} {H : Hp} {Q : VK} (h : tE c W (mN f rs) σ H Q) : tA c W rs σ H fun xs H1 => r xs H1 Q := by
  obtain ⟨ι, β, mh, σm, rel, rl, p⟩ := h
  exact (run1 rel rl p).mono fun x H1 ⟨ι1, mh1, a, f1, rel1, rl1, ra1, p1⟩ => hp _ _ _ _ _ _ _ _ rel1 ra1 p1
variable {a b d : Expr} {ra rb rd : EM} {pos : Pos}
theorem e_op {op : Operator} {r : R2} {f : MV → MV → MH → R MV} (ho : OpR X (binaryOp op) r) (hp : P2 c r f) (ha : PE X a (tE c W ra)) (hb : PE X b (tE c W rb)) : PE X (.BinOp a op b pos) (tE c W (m2 f ra rb)) :=
  (pe_op ho ha hb).wk fun σ H Q h => m2_of hp h
theorem e_un {op : UnaryOp} {r : V → Hp → VK → Prop} {f : MV → MH → R MV} (ho : UnR X (unaryOp op) r) (hp : P1 c r f) (ha : PE X a (tE c W ra)) : PE X (.UnaryOp op a pos) (tE c W (m1 f ra)) :=
  (pe_un ho ha).wk fun σ H Q h => m1_of hp h
theorem e_cmp {op : CmpOp} {r : R2} {f : MV → MV → MH → R MV} (ho : OpR X (compareOp op) r) (hp : P2 c r f) (ha : PE X a (tE c W ra)) (hb : PE X b (tE c W rb)) (hm : behindInMarks op b = false) : PE X (.Compare a [op] [b] pos) (tE c W (m2 f ra rb)) :=
  (pe_cmpR ho ha hb hm).wk fun σ H Q h => m2_of hp h
theorem e_ix {r : R2} {f : MV → MV → MH → R MV} (ho : IxR X r) (hp : P2 c r f) (ha : PE X a (tE c W ra)) (hb : PE X b (tE c W rb)) (hs : PlainIx b) : PE X (.Subscript a b pos) (tE c W (m2 f ra rb)) :=
  (pe_ix ho ha hb hs).wk fun σ H Q h => m2_of hp h

/-! ### tests -/
/-- a value's truth, a bool -/
@[simp] def isB (v : MV) (h : MH) : R Bool := match v with
  | .bl b => .ok b h
  | _ => .bad
@[simp] def mB (r : EM) : TM := fun σ h => bindR (r σ h) isB
theorem mB_of {r : EM} {σ : St} {H : Hp} {Q : Bool → Hp → Prop} (h : tT c W (mB r) σ H Q) : tTest (tE c W r) σ H Q := by
  obtain ⟨ι, β, mh, σm, rel, rl, p⟩ := h
  refine (run1 rel rl p).mono fun x H1 ⟨ι1, mh1, a, f1, rel1, rl1, ra1, p1⟩ => ?_
  cases a with
  | bl b =>
    unfold RepV at ra1
    exact ⟨b, ra1, p1 ι1 H1 b .refl rel1 rfl⟩
  | _ => exact p1.elim
theorem t_val (ha : PE X a (tE c W ra)) (he : ∀ whole, isTrue a X.env whole = (do let v ← whole; standAt a.pos; holding [v] (truthy v)) := by intro _; rfl) : PT X a (tT c W (mB ra)) :=
  PT.wk (t := tB (tE c W ra)) (pt_val ha he) fun σ H Q h => mB_of h
theorem t_cmp {op : CmpOp} {r : R2} {f : MV → MV → MH → R MV} (ho : OpR X (compareOp op) r) (hp : P2 c r f) (ha : PE X a (tE c W ra)) (hb : PE X b (tE c W rb)) (hm : behindInMarks op b = false) : PT X (.Compare a [op] [b] pos) (tT c W (mB (m2 f ra rb))) :=
  (pt_cmpR ho ha hb hm).wk fun σ H Q h => m2_of hp (mB_of h)
/-- a op b op' d -/
@[simp] def m3c (f g : MV → MV → MH → R MV) (ra rb rd : EM) : EM := fun σ h => bindR (ra σ h) fun a h1 => bindR (rb σ h1) fun b h2 => bindR (f a b h2) fun z h3 => match z with
  | .bl true => bindR (rd σ h3) fun e h4 => g b e h4
  | .bl false => .ok (.bl false) h3
  | _ => .bad
theorem m3c_of {r r' : R2} {f g : MV → MV → MH → R MV} (hp : P2 c r f) (hp' : P2 c r' g) {σ : St} {H : Hp} {Q : VK} (h : tE c W (m3c f g ra rb rd) σ H Q) : tChain r r' (tE c W ra) (tE c W rb) (tE c W rd) σ H Q := by
  obtain ⟨ι, β, mh, σm, rel, rl, p⟩ := h
  refine (run1 rel rl p).mono fun x H1 ⟨ι1, mh1, a, f1, rel1, rl1, ra1, p1⟩ => ?_
  refine (run1 rel1 rl1 p1).mono fun y H2 ⟨ι2, mh2, b, f2, rel2, rl2, ra2, p2⟩ => ?_
  refine hp ι2 β H2 mh2 a b x y _ (fun cls dd H' => W cls dd σ H') rel2 (ra1.mono f2) ra2 ?_
  cases e : f a b mh2 with
  | bad => rw [e] at p2; exact p2
  | ex u h3 => rw [e] at p2; exact p2
  | ok z h3 =>
    rw [e] at p2
    intro ι3 H3 u f3 rel3 rz
    cases z with
    | bl k =>
      unfold RepV at rz
      refine ⟨k, rz, ?_⟩
      cases k with
      | true =>
        rw [if_pos rfl]
        refine (run1 rel3 (rl2.mono f3) (Post.fr f3 p2)).mono fun w H4 ⟨ι4, mh4, e4, f4, rel4, rl4, ra4, p4⟩ => ?_
        exact hp' _ _ _ _ _ _ _ _ _ _ rel4 ((ra2.mono f3).mono f4) ra4 p4
      | false =>
        rw [if_neg Bool.false_ne_true]
        exact p2 ι3 H3 (.bl false) f3 rel3 (rbl _ _ _)
    | _ => exact p2.elim
theorem e_chain {op op' : CmpOp} {r r' : R2} {f g : MV → MV → MH → R MV} (ho : OpR X (compareOp op) r) (hp : P2 c r f) (ho' : OpR X (compareOp op') r') (hp' : P2 c r' g) (ha : PE X a (tE c W ra)) (hb : PE X b (tE c W rb)) (hd : PE X d (tE c W rd))
    (hm : lastMarks [op, op'] [b, d] = false := by with_unfolding_all rfl) : PE X (.Compare a [op, op'] [b, d] pos) (tE c W (m3c f g ra rb rd)) :=
  (pe_chain ho ho' ha hb hd hm).wk fun σ H Q h => m3c_of hp hp' h
theorem t_chain {op op' : CmpOp} {r r' : R2} {f g : MV → MV → MH → R MV} (ho : OpR X (compareOp op) r) (hp : P2 c r f) (ho' : OpR X (compareOp op') r') (hp' : P2 c r' g) (ha : PE X a (tE c W ra)) (hb : PE X b (tE c W rb)) (hd : PE X d (tE c W rd))
    (hm : lastMarks [op, op'] [b, d] = false := by with_unfolding_all rfl) : PT X (.Compare a [op, op'] [b, d] pos) (tT c W (mB (m3c f g ra rb rd))) :=
  (pt_chain ho ho' ha hb hd hm).wk fun σ H Q h => m3c_of hp hp' (mB_of h)

@[simp] def mAnd (ra rb : TM) : TM := fun σ h => bindR (ra σ h) fun k h1 => if k = true then rb σ h1 else .ok false h1
@[simp] def mOr (ra rb : TM) : TM := fun σ h => bindR (ra σ h) fun k h1 => if k = true then .ok true h1 else rb σ h1
@[simp] def mNot (ra : TM) : TM := fun σ h => bindR (ra σ h) fun k h1 => .ok (!k) h1
variable {ta tb : TM} {rest : List Expr}
theorem w_one1 (h : PT X a (tT c W ta)) : PW X (.BoolOp .And [a] pos) (tT c W ta) := pw_and1 h
theorem w_one2 (h : PT X a (tT c W ta)) : PW X (.BoolOp .Or [a] pos) (tT c W ta) := pw_or1 h
theorem w_and (ha : PT X a (tT c W ta)) (hb : PW X (.BoolOp .And (b :: rest) pos) (tT c W tb)) : PW X (.BoolOp .And (a :: b :: rest) pos) (tT c W (mAnd ta tb)) :=
  (pw_and ha hb).wk fun σ H Q ⟨ι, β, mh, σm, rel, rl, p⟩ => by
    refine (run1 rel rl p).mono fun x H1 ⟨ι1, mh1, k, f1, rel1, rl1, ra1, p1⟩ => ?_
    obtain rfl : k = x := ra1
    cases k with
    | true => rw [if_pos rfl] at p1 ⊢; exact ⟨ι1, _, mh1, σm, rel1, rl1, p1⟩
    | false => rw [if_neg Bool.false_ne_true] at p1 ⊢; exact p1 ι1 H1 false .refl rel1 rfl
theorem w_or (ha : PT X a (tT c W ta)) (hb : PW X (.BoolOp .Or (b :: rest) pos) (tT c W tb)) : PW X (.BoolOp .Or (a :: b :: rest) pos) (tT c W (mOr ta tb)) :=
  (pw_or ha hb).wk fun σ H Q ⟨ι, β, mh, σm, rel, rl, p⟩ => by
    refine (run1 rel rl p).mono fun x H1 ⟨ι1, mh1, k, f1, rel1, rl1, ra1, p1⟩ => ?_
    obtain rfl : k = x := ra1
    cases k with
    | false => rw [if_neg Bool.false_ne_true] at p1 ⊢; exact ⟨ι1, _, mh1, σm, rel1, rl1, p1⟩
    | true => rw [if_pos rfl] at p1 ⊢; exact p1 ι1 H1 true .refl rel1 rfl
theorem t_not (ha : PT X a (tT c W ta)) : PT X (.UnaryOp .Not a pos) (tT c W (mNot ta)) :=
  (pt_not ha).wk fun σ H Q ⟨ι, β, mh, σm, rel, rl, p⟩ => by
    refine (run1 rel rl p).mono fun x H1 ⟨ι1, mh1, k, f1, rel1, rl1, ra1, p1⟩ => ?_
    obtain rfl : k = x := ra1
    exact p1 ι1 H1 _ .refl rel1 rfl
/-- as values: all but the last are bools -/
@[simp] def mAndV (ra rb : EM) : EM := fun σ h => bindR (ra σ h) fun v h1 => match v with
  | .bl true => rb σ h1
  | .bl false => .ok (.bl false) h1
  | _ => .bad
@[simp] def mOrV (ra rb : EM) : EM := fun σ h => bindR (ra σ h) fun v h1 => match v with
  | .bl true => .ok (.bl true) h1
  | .bl false => rb σ h1
  | _ => .bad
@[simp] def mNotV (ra : EM) : EM := fun σ h => bindR (ra σ h) fun v h1 => match v with
  | .bl k => .ok (.bl (!k)) h1
  | _ => .bad
theorem e_one {op} (h : PE X a (tE c W ra)) : PE X (.BoolOp op [a] pos) (tE c W ra) := pe_one h
theorem e_and (ha : PE X a (tE c W ra)) (hb : PE X (.BoolOp .And (b :: rest) pos) (tE c W rb)) : PE X (.BoolOp .And (a :: b :: rest) pos) (tE c W (mAndV ra rb)) :=
  (pe_and ha hb).wk fun σ H Q ⟨ι, β, mh, σm, rel, rl, p⟩ => by
    refine (run1 rel rl p).mono fun x H1 ⟨ι1, mh1, v, f1, rel1, rl1, ra1, p1⟩ => ?_
    cases v with
    | bl k =>
      unfold RepV at ra1
      refine ⟨k, ra1, ?_⟩
      cases k with
      | true => rw [if_pos rfl]; exact ⟨ι1, _, mh1, σm, rel1, rl1, p1⟩
      | false => rw [if_neg Bool.false_ne_true]; exact p1 ι1 H1 _ .refl rel1 (rbl _ _ _)
    | _ => exact p1.elim
theorem e_or (ha : PE X a (tE c W ra)) (hb : PE X (.BoolOp .Or (b :: rest) pos) (tE c W rb)) : PE X (.BoolOp .Or (a :: b :: rest) pos) (tE c W (mOrV ra rb)) :=
  (pe_or ha hb).wk fun σ H Q ⟨ι, β, mh, σm, rel, rl, p⟩ => by
    refine (run1 rel rl p).mono fun x H1 ⟨ι1, mh1, v, f1, rel1, rl1, ra1, p1⟩ => ?_
    cases v with
    | bl k =>
      unfold RepV at ra1
      refine ⟨k, ra1, ?_⟩
      cases k with
      | false => rw [if_neg Bool.false_ne_true]; exact ⟨ι1, _, mh1, σm, rel1, rl1, p1⟩
      | true => rw [if_pos rfl]; exact p1 ι1 H1 _ .refl rel1 (rbl _ _ _)
    | _ => exact p1.elim
theorem e_not (ha : PE X a (tE c W ra)) : PE X (.UnaryOp .Not a pos) (tE c W (mNotV ra)) :=
  (pe_not ha).wk fun σ H Q ⟨ι, β, mh, σm, rel, rl, p⟩ => by
    refine (run1 rel rl p).mono fun x H1 ⟨ι1, mh1, v, f1, rel1, rl1, ra1, p1⟩ => ?_
    cases v with
    | bl k =>
      unfold RepV at ra1
      exact ⟨k, ra1, p1 ι1 H1 _ .refl rel1 (rbl _ _ _)⟩
    | _ => exact p1.elim
@[simp] def mIf (t : TM) (ra rb : EM) : EM := fun σ h => bindR (t σ h) fun k h1 => if k = true then ra σ h1 else rb σ h1
theorem e_if {q : Expr} (hq : PT X q (tT c W ta)) (ha : PE X a (tE c W ra)) (hb : PE X b (tE c W rb)) : PE X (.IfExp q a b pos) (tE c W (mIf ta ra rb)) :=
  (pe_ifExp hq ha hb).wk fun σ H Q ⟨ι, β, mh, σm, rel, rl, p⟩ => by
    refine (run1 rel rl p).mono fun x H1 ⟨ι1, mh1, k, f1, rel1, rl1, ra1, p1⟩ => ?_
    obtain rfl : k = x := ra1
    cases k with
    | true => rw [if_pos rfl] at p1 ⊢; exact ⟨ι1, _, mh1, σm, rel1, rl1, p1⟩
    | false => rw [if_neg Bool.false_ne_true] at p1 ⊢; exact ⟨ι1, _, mh1, σm, rel1, rl1, p1⟩
end

/-! ### displays -/
def SZ : Nat := 16777216
theorem sz_eq : sizeLine = SZ := by rw [sizeLine_eq]; rfl
section
variable {X : Cx} {c : C} {W : WX} {es : List Expr} {rs : AM} {pos : Pos}
@[simp] def mkTup (l : List MV) (h : MH) : R MV := if l.length ≤ SZ then .ok (.tup l) h else .bad
def mkLv (l : List MV) (h : MH) : R MV := if l.length ≤ SZ then .ok (.lv l) h else .bad
def mkLst (l : List MV) (h : MH) : R MV := if l.length ≤ SZ then .ok (.ref h.length) (h ++ [.lst l]) else .bad
theorem e_tup {x1} (h : PA X es (tA c W rs)) : PE X (.Tuple es x1 pos) (tE c W (mN mkTup rs)) := by
  refine (pe_tup h).wk fun σ H Q hh => ?_
  refine mN_of (r := fun xs H1 Q => xs.length ≤ sizeLine ∧ ∀ p, H1 p = none → Q (.ref p) (upd H1 p (.tup xs))) (fun ι β H mh as xs Q W rel r p => ?_) hh
  unfold mkTup at p
  split at p
  · rename_i hl
    refine ⟨by rw [← r.length, sz_eq]; exact hl, fun q hq => p ι (upd H q (.tup xs)) (.ref q) (Fr.lay rel hq) (rel.lay hq) ?_⟩
    unfold RepV
    refine ⟨q, xs, rfl, .inl ⟨upd_same, rel.fresh hq, fun z => ?_⟩, r.mono (Fr.lay rel hq)⟩
    obtain ⟨o, e, _⟩ := rel.ban q z
    rw [hq] at e; cases e
  · exact p.elim
theorem nban {ι β : List Addr} {H : Hp} {mh : MH} {q : Addr} (rel : Rel c ι β H mh) (hq : H q = none) : q ∉ β := fun z => by
  obtain ⟨o, e, _⟩ := rel.ban q z
  rw [hq] at e; cases e
theorem rep_lv {ι β : List Addr} {H : Hp} {mh : MH} {q : Addr} {as : List MV} {xs : List V} (rel : Rel c ι β H mh) (hq : H q = none) (r : RepVs c.K ι β H as xs) : RepV c.K ι β (upd H q (.lst xs)) (.lv as) (.ref q) := by
  unfold RepV
  exact ⟨q, xs, rfl, ⟨upd_same, rel.fresh hq, nban rel hq⟩, r.mono (Fr.lay rel hq)⟩
theorem rep_tup {ι β : List Addr} {H : Hp} {mh : MH} {q : Addr} {as : List MV} {xs : List V} (rel : Rel c ι β H mh) (hq : H q = none) (r : RepVs c.K ι β H as xs) : RepV c.K ι β (upd H q (.tup xs)) (.tup as) (.ref q) := by
  unfold RepV
  exact ⟨q, xs, rfl, .inl ⟨upd_same, rel.fresh hq, nban rel hq⟩, r.mono (Fr.lay rel hq)⟩
theorem rep_ref {ι β : List Addr} {H : Hp} {mh : MH} {q : Addr} {o : HO} (rel : Rel c ι β H mh) : RepV c.K (ι ++ [q]) β (upd H q o) (.ref mh.length) (.ref q) := by
  unfold RepV
  refine ⟨q, rfl, ?_⟩
  rw [rel.len, List.getElem?_append_right (Nat.le_refl _)]
  simp
theorem e_lv (h : PA X es (tA c W rs)) : PE X (.List es pos) (tE c W (mN mkLv rs)) := by
  refine (pe_lst h).wk fun σ H Q hh => ?_
  refine mN_of (r := fun xs H1 Q => xs.length ≤ sizeLine ∧ ∀ p, H1 p = none → Q (.ref p) (upd H1 p (.lst xs))) (fun ι β H mh as xs Q W rel r p => ?_) hh
  unfold mkLv at p
  split at p
  · rename_i hl
    exact ⟨by rw [← r.length, sz_eq]; exact hl, fun q hq => p ι (upd H q (.lst xs)) (.ref q) (Fr.lay rel hq) (rel.lay hq) (rep_lv rel hq r)⟩
  · exact p.elim
theorem e_lst (h : PA X es (tA c W rs)) : PE X (.List es pos) (tE c W (mN mkLst rs)) := by
  refine (pe_lst h).wk fun σ H Q hh => ?_
  refine mN_of (r := fun xs H1 Q => xs.length ≤ sizeLine ∧ ∀ p, H1 p = none → Q (.ref p) (upd H1 p (.lst xs))) (fun ι β H mh as xs Q W rel r p => ?_) hh
  unfold mkLst at p
  split at p
  · rename_i hl
    refine ⟨by rw [← r.length, sz_eq]; exact hl, fun q hq => p (ι ++ [q]) (upd H q (.lst xs)) (.ref q) (Fr.new rel hq) (rel.new hq ⟨xs, upd_same, r.mono (Fr.new rel hq)⟩) (rep_ref rel)⟩
  · exact p.elim
/-- {} -/
def mDict : EM := fun _ h => .ok (.ref h.length) (h ++ [.dct []])
theorem e_dict : PE X (.Dict [] [] pos) (tE c W mDict) :=
  pe_dnewK.wk fun σ H Q ⟨ι, β, mh, σm, rel, rl, p⟩ => fun q hq => p (ι ++ [q]) _ _ (Fr.new rel hq) (rel.new hq ⟨[], upd_same, rfl⟩) (rep_ref rel)
end

/-! ### statements -/
section
variable {X : Cx} {c : C} {W : WX} {st : Stmt} {rest : List Stmt} {e : Expr} {re : EM} {pos : Pos}
@[simp] def sNil : SM := fun σ h => .nx σ h
@[simp] def sSeq (a b : SM) : SM := fun σ h => match a σ h with
  | .nx σ1 h1 => b σ1 h1
  | x => x
theorem ss_nil : PSs X [] (tS c W sNil) := pss_nil.wk fun D σ H ⟨ι, β, mh, σm, rel, rl, p⟩ => p ι H σ .refl rel rl
theorem sSeq_of {r1 r2 : SM} {D : Ends} {σ : St} {H : Hp} (h : tS c W (sSeq r1 r2) D σ H) : tSeq (tS c W r1) (tS c W r2) D σ H := by
  obtain ⟨ι, β, mh, σm, rel, rl, p⟩ := h
  refine ⟨ι, β, mh, σm, rel, rl, ?_⟩
  unfold sSeq at p
  cases e : r1 σm mh with
  | nx σ1 h1 => rw [e] at p; exact fun ι' H' σ' f r rl' => ⟨ι', β, h1, σ1, r, rl', PostS.fr f p⟩
  | rt v h1 => rw [e] at p; exact p
  | bk v h1 => rw [e] at p; exact p
  | ct v h1 => rw [e] at p; exact p
  | ex x v h1 => rw [e] at p; exact p
  | bad => rw [e] at p; exact p
theorem ss_cons {r1 r2 : SM} (h1 : PS X st (tS c W r1)) (h2 : PSs X rest (tS c W r2)) : PSs X (st :: rest) (tS c W (sSeq r1 r2)) := (pss_cons h1 h2).wk fun D σ H h => sSeq_of h
theorem ss_one {r1 : SM} (h1 : PS X st (tS c W r1)) : PSs X [st] (tS c W r1) := pss_one h1
@[simp] def sPass : SM := fun σ h => .nx σ h
@[simp] def sBreak : SM := fun σ h => .bk σ h
@[simp] def sCont : SM := fun σ h => .ct σ h
theorem s_pass : PS X (.Pass pos) (tS c W sPass) := ps_pass.wk fun D σ H ⟨ι, β, mh, σm, rel, rl, p⟩ => p ι H σ .refl rel rl
theorem s_break : PS X (.Break pos) (tS c W sBreak) := ps_break.wk fun D σ H ⟨ι, β, mh, σm, rel, rl, p⟩ => p ι H σ .refl rel rl
theorem s_cont : PS X (.Continue pos) (tS c W sCont) := ps_continue.wk fun D σ H ⟨ι, β, mh, σm, rel, rl, p⟩ => p ι H σ .refl rel rl
@[simp] def sNever : SM := fun _ _ => .bad
theorem s_never : PS X st (tS c W sNever) := ps_never.wk fun D σ H ⟨ι, β, mh, σm, rel, rl, p⟩ => p
@[simp] def sExpr (r : EM) : SM := fun σ h => bindS (r σ h) σ fun _ h1 => .nx σ h1
theorem s_expr (he : PE X e (tE c W re)) (hs : swapsWith e none pos.line X.env = pure false := by rfl) : PS X (.Expr e pos) (tS c W (sExpr re)) :=
  (ps_expr he hs).wk fun D σ H ⟨ι, β, mh, σm, rel, rl, p⟩ =>
    (run1S rel rl p).mono fun x H1 ⟨ι1, mh1, a, f1, rel1, rl1, ra1, p1⟩ => p1 ι1 H1 σ .refl rel1 rl1
@[simp] def sRet (r : EM) : SM := fun σ h => bindS (r σ h) σ fun v h1 => .rt v h1
theorem s_ret (he : PE X e (tE c W re)) : PS X (.Return (some e) pos) (tS c W (sRet re)) :=
  (ps_ret he).wk fun D σ H ⟨ι, β, mh, σm, rel, rl, p⟩ =>
    (run1S rel rl p).mono fun x H1 ⟨ι1, mh1, a, f1, rel1, rl1, ra1, p1⟩ => p1 ι1 H1 x .refl rel1 ra1
@[simp] def sRetN : SM := fun _ h => .rt .non h
theorem s_retN : PS X (.Return none pos) (tS c W sRetN) := ps_retN.wk fun D σ H ⟨ι, β, mh, σm, rel, rl, p⟩ => p ι H .non .refl rel (rnon _ _ _)
@[simp] def sIf (t : TM) (a b : SM) : SM := fun σ h => bindS (t σ h) σ fun k h1 => if k = true then a σ h1 else b σ h1
theorem s_if {q : Expr} {ba bb : List Stmt} {t : TM} {r1 r2 : SM} (hq : PT X q (tT c W t)) (h1 : PSs X ba (tS c W r1)) (h2 : PSs X bb (tS c W r2)) : PS X (.If q ba bb pos) (tS c W (sIf t r1 r2)) :=
  (ps_if hq h1 h2).wk fun D σ H ⟨ι, β, mh, σm, rel, rl, p⟩ => by
    refine (run1S rel rl p).mono fun x H1 ⟨ι1, mh1, k, f1, rel1, rl1, ra1, p1⟩ => ?_
    obtain rfl : k = x := ra1
    cases k with
    | true => rw [if_pos rfl] at p1 ⊢; exact ⟨ι1, _, mh1, σm, rel1, rl1, p1⟩
    | false => rw [if_neg Bool.false_ne_true] at p1 ⊢; exact ⟨ι1, _, mh1, σm, rel1, rl1, p1⟩
/-- name = e -/
@[simp] def sSet (i : Nat) (r : EM) : SM := fun σ h => bindS (r σ h) σ fun v h1 => .nx (σ.set i (some v)) h1
theorem s_set {i : Nat} {x : Str} {pos' : Pos} (hN : X.N.Nodup) (hi : X.N[i]? = some x) (hx : Loc X.env.scope x) (he : PE X e (tE c W re)) (hs : swapsWith e (some (.Name x pos')) pos.line X.env = pure false := by rfl) (hf : X.fn x = true ∨ X.env.scope.names.lookup x = some .local := by first | exact .inl rfl | exact .inr rfl) :
    PS X (.Assign [.Name x pos'] e pos) (tS c W (sSet i re)) :=
  (ps_set hN hi hx he hs hf).wk fun D σ H ⟨ι, β, mh, σm, rel, rl, p⟩ =>
    (run1S rel rl p).mono fun v H1 ⟨ι1, mh1, a, f1, rel1, rl1, ra1, p1⟩ => p1 ι1 H1 _ .refl rel1 (rl1.set ra1)

/-! ### targets -/
abbrev GM := MV → Lo → MH → R Lo
def PostG (c : C) (ι β : List Addr) (H : Hp) (Q : St → Hp → Prop) : R Lo → Prop
  | .ok σ1 h => ∀ ι' H' σ', Fr ι H ι' H' → Rel c ι' β H' h → RepL c.K ι' β H' σ1 σ' → Q σ' H'
  | _ => False
def tG (c : C) (g : GM) : TG := fun v σ H Q => ∃ ι β mh σm m, Rel c ι β H mh ∧ RepL c.K ι β H σm σ ∧ RepV c.K ι β H m v ∧ PostG c ι β H Q (g m σm mh)
theorem _root_.L2.PG.wk {tg : Expr} {t t' : TG} (h : PG X tg t) (w : ∀ v σ H Q, t' v σ H Q → t v σ H Q) : PG X tg t' := ⟨fun pins s σ H v u Q I r q => h.run pins s σ H v u Q I r (w v σ H Q q)⟩
@[simp] def gmName (i : Nat) : GM := fun v σ h => .ok (σ.set i (some v)) h
theorem g_name {i : Nat} {x : Str} (hN : X.N.Nodup) (hi : X.N[i]? = some x) (hx : Loc X.env.scope x) (hf : X.fn x = true ∨ X.env.scope.names.lookup x = some .local := by first | exact .inl rfl | exact .inr rfl) : PG X (.Name x pos) (tG c (gmName i)) :=
  (pg_name hN hi hx hf).wk fun v σ H Q ⟨ι, β, mh, σm, m, rel, rl, rv, p⟩ => p ι H _ .refl rel (rl.set rv)
abbrev GMs := List MV → Lo → MH → R Lo
def tGs (c : C) (g : GMs) : TGs := fun vs σ H Q => ∃ ι β mh σm ms, Rel c ι β H mh ∧ RepL c.K ι β H σm σ ∧ RepVs c.K ι β H ms vs ∧ PostG c ι β H Q (g ms σm mh)
theorem _root_.L2.PGs.wk {tgs : List Expr} {t t' : TGs} (h : PGs X tgs t) (w : ∀ v σ H Q, t' v σ H Q → t v σ H Q) : PGs X tgs t' := ⟨fun pins s σ H v u Q I r q => h.run pins s σ H v u Q I r (w v σ H Q q)⟩
@[simp] def gmNil : GMs := fun vs σ h => match vs with
  | [] => .ok σ h
  | _ => .bad
@[simp] def gmCons (g : GM) (gs : GMs) : GMs := fun vs σ h => match vs with
  | v :: r => match g v σ h with
    | .ok σ1 h1 => gs r σ1 h1
    | _ => .bad
  | [] => .bad
theorem gs_nil : PGs X [] (tGs c gmNil) := pgs_nil.wk fun v σ H Q ⟨ι, β, mh, σm, ms, rel, rl, rv, p⟩ => by
  cases ms with
  | nil => exact ⟨rv.nil_iff, p ι H σ .refl rel rl⟩
  | cons a b => exact p.elim
theorem gs_cons {es : List Expr} {g : GM} {gs : GMs} (h1 : PG X e (tG c g)) (h2 : PGs X es (tGs c gs)) (hs : (assignEach (e :: es) X.env).map (·.2) = assign e X.env :: (assignEach es X.env).map (·.2) := by rfl) : PGs X (e :: es) (tGs c (gmCons g gs)) :=
  (pgs_cons h1 h2 hs).wk fun vs σ H Q ⟨ι, β, mh, σm, ms, rel, rl, rv, p⟩ => by
    cases ms with
    | nil => exact p.elim
    | cons m ms =>
      obtain ⟨v, r, rfl, rv1, rv2⟩ := rv.cons_iff
      refine ⟨v, r, rfl, ι, β, mh, σm, m, rel, rl, rv1, ?_⟩
      unfold gmCons at p
      cases e : g m σm mh with
      | ok σ1 h1 =>
        simp only [e] at p
        exact fun ι' H' σ' f rel' rl' => ⟨ι', β, h1, σ1, ms, rel', rl', rv2.mono f, by
          cases e2 : gs ms σ1 h1 with
          | ok σ2 h2 => rw [e2] at p; exact fun ι2 H2 σ2 f2 r2 l2 => p ι2 H2 σ2 (f.trans f2) r2 l2
          | ex a b => rw [e2] at p; exact p
          | bad => rw [e2] at p; exact p⟩
      | ex a b => simp only [e] at p; exact p.elim
      | bad => simp only [e] at p; exact p.elim
@[simp] def gmTup (gs : GMs) (n : Nat) : GM := fun v σ h => match v with
  | .tup l => if l.length = n then gs l σ h else .bad
  | _ => .bad
theorem RepV.tup_iff {K : PySem.W.Frag} {ι β : List Addr} {H : Hp} {l : List MV} {v : V} (h : RepV K ι β H (.tup l) v) : ∃ a vs, v = .ref a ∧ SqT K H a vs ∧ RepVs K ι β H l vs := by
  unfold RepV at h
  obtain ⟨a, vs, e, q, r⟩ := h
  refine ⟨a, vs, e, ?_, r⟩
  rcases q with ⟨q, _⟩ | q
  · exact .inl (.inl q)
  · exact .inr q
theorem g_tup {es : List Expr} {k n : Nat} {gs : GMs} (hc : X.calm = true) (hK : X.K = c.K) (h : PGs X es (tGs c gs)) (hn : (assignEach es X.env).length = n := by rfl) (hst : (assignEach es X.env).findIdx? (·.1) = none := by rfl) : PG X (.Tuple es k pos) (tG c (gmTup gs n)) :=
  (pg_tup hc h hn hst).wk fun v σ H Q ⟨ι, β, mh, σm, m, rel, rl, rv, p⟩ => by
    cases m with
    | tup l =>
      obtain ⟨a, vs, rfl, q, r⟩ := rv.tup_iff
      unfold gmTup at p
      simp only at p
      split at p
      · rename_i hl
        exact ⟨a, vs, rfl, by rw [hK]; exact q, by rw [← r.length]; exact hl, ι, β, mh, σm, l, rel, rl, r, p⟩
      · exact p.elim
    | _ => exact p.elim
@[simp] def sAsg (r : EM) (g : GM) : SM := fun σ h => bindS (r σ h) σ fun v h1 => match g v σ h1 with
  | .ok σ1 h2 => .nx σ1 h2
  | _ => .bad
theorem s_asg {tg : Expr} {g : GM} (he : PE X e (tE c W re)) (hg : PG X tg (tG c g)) (hs : swapsWithSole [tg] e pos.line X.env = pure false := by rfl) (hw : swappedStores [tg] e X.env = pure none := by rfl)
    (h1 : (assignEach [tg] X.env).map (·.2) = [assign tg X.env] := by rfl) : PS X (.Assign [tg] e pos) (tS c W (sAsg re g)) :=
  (ps_asg he hg hs hw h1).wk fun D σ H ⟨ι, β, mh, σm, rel, rl, p⟩ =>
    (run1S rel rl p).mono fun v H1 ⟨ι1, mh1, a, f1, rel1, rl1, ra1, p1⟩ => by
      refine ⟨ι1, β, mh1, σm, a, rel1, rl1, ra1, ?_⟩
      cases e : g a σm mh1 with
      | ok σ1 h1 => simp only [e] at p1; exact p1
      | ex a b => simp only [e] at p1; exact p1
      | bad => simp only [e] at p1; exact p1
end
end MP

/-! Mirror layer, part 3: what is left over is dropped (gc); defs and calls. -/
namespace MP
open PySem PySem.Spec PyProof.Rows L2

/-! ### equality of mirror values, by computation -/
mutual
def beqV : MV → MV → Bool
  | .non, .non => true
  | .bl a, .bl b => a == b
  | .int a, .int b => decide (a = b)
  | .str a, .str b => decide (a = b)
  | .tup a, .tup b => beqVs a b
  | .lv a, .lv b => beqVs a b
  | .dv a a', .dv b b' => beqVs a b && beqVs a' b'
  | .fz a, .fz b => beqVs a b
  | .ref a, .ref b => Nat.beq a b
  | _, _ => false
def beqVs : List MV → List MV → Bool
  | [], [] => true
  | a :: l, b :: r => beqV a b && beqVs l r
  | _, _ => false
end
mutual
theorem beqV_eq : ∀ {a b : MV}, beqV a b = true → a = b
  | .non, b, h => by cases b <;> simp_all [beqV]
  | .bl a, b, h => by cases b <;> simp_all [beqV]
  | .int a, b, h => by cases b <;> simp_all [beqV]
  | .str a, b, h => by cases b <;> simp_all [beqV]
  | .tup a, b, h => by cases b <;> simp_all [beqV]; exact beqVs_eq h
  | .lv a, b, h => by cases b <;> simp_all [beqV]; exact beqVs_eq h
  | .dv a a', b, h => by cases b <;> simp_all [beqV]; exact ⟨beqVs_eq h.1, beqVs_eq h.2⟩
  | .fz a, b, h => by cases b <;> simp_all [beqV]; exact beqVs_eq h
  | .ref a, b, h => by cases b <;> simp_all [beqV]
theorem beqVs_eq : ∀ {a b : List MV}, beqVs a b = true → a = b
  | [], b, h => by cases b <;> simp_all [beqVs]
  | x :: l, b, h => by
    cases b with
    | nil => simp [beqVs] at h
    | cons y r =>
      simp only [beqVs, Bool.and_eq_true] at h
      rw [beqV_eq h.1, beqVs_eq h.2]
end
mutual
@[simp] theorem beqV_self : ∀ a : MV, beqV a a = true
  | .non => rfl
  | .bl a => by simp [beqV]
  | .int a => by simp [beqV]
  | .str a => by simp [beqV]
  | .tup a => by simp [beqV, beqVs_self a]
  | .lv a => by simp [beqV, beqVs_self a]
  | .dv a b => by simp [beqV, beqVs_self a, beqVs_self b]
  | .fz a => by simp [beqV, beqVs_self a]
  | .ref a => by simp [beqV]
@[simp] theorem beqVs_self : ∀ a : List MV, beqVs a a = true
  | [] => rfl
  | x :: l => by simp [beqVs, beqV_self x, beqVs_self l]
end
def beqKV : List (MV × MV) → List (MV × MV) → Bool
  | [], [] => true
  | (a, b) :: l, (a', b') :: r => beqV a a' && (beqV b b' && beqKV l r)
  | _, _ => false
def beqFs : List (Str × MV) → List (Str × MV) → Bool
  | [], [] => true
  | (a, b) :: l, (a', b') :: r => decide (a = a') && (beqV b b' && beqFs l r)
  | _, _ => false
theorem beqKV_eq : ∀ {a b : List (MV × MV)}, beqKV a b = true → a = b
  | [], b, h => by cases b <;> simp_all [beqKV]
  | (x, y) :: l, b, h => by
    cases b with
    | nil => simp [beqKV] at h
    | cons z r =>
      obtain ⟨z1, z2⟩ := z
      simp only [beqKV, Bool.and_eq_true] at h
      rw [beqV_eq h.1, beqV_eq h.2.1, beqKV_eq h.2.2]
@[simp] theorem beqKV_self : ∀ a : List (MV × MV), beqKV a a = true
  | [] => rfl
  | (x, y) :: l => by simp [beqKV, beqKV_self l]
theorem beqFs_eq : ∀ {a b : List (Str × MV)}, beqFs a b = true → a = b
  | [], b, h => by cases b <;> simp_all [beqFs]
  | (x, y) :: l, b, h => by
    cases b with
    | nil => simp [beqFs] at h
    | cons z r =>
      obtain ⟨z1, z2⟩ := z
      simp only [beqFs, Bool.and_eq_true, decide_eq_true_eq] at h
      rw [h.1, beqV_eq h.2.1, beqFs_eq h.2.2]
@[simp] theorem beqFs_self : ∀ a : List (Str × MV), beqFs a a = true
  | [] => rfl
  | (x, y) :: l => by simp [beqFs, beqFs_self l]
def beqO : MO → MO → Bool
  | .lst a, .lst b => beqVs a b
  | .dct a, .dct b => beqKV a b
  | .fdc a, .fdc b => beqKV a b
  | .ins c a, .ins d b => Nat.beq c d && beqFs a b
  | _, _ => false
theorem beqO_eq : ∀ {a b : MO}, beqO a b = true → a = b
  | .lst a, b, h => by cases b <;> simp_all [beqO]; exact beqVs_eq h
  | .dct a, b, h => by cases b <;> simp_all [beqO]; exact beqKV_eq h
  | .fdc a, b, h => by cases b <;> simp_all [beqO]; exact beqKV_eq h
  | .ins n a, b, h => by
    cases b <;> simp_all [beqO]
    exact beqFs_eq h.2
@[simp] theorem beqO_self (a : MO) : beqO a a = true := by cases a <;> simp [beqO]
def beqH : MH → MH → Bool
  | [], [] => true
  | a :: l, b :: r => beqO a b && beqH l r
  | _, _ => false
theorem beqH_eq : ∀ {a b : MH}, beqH a b = true → a = b
  | [], b, h => by cases b <;> simp_all [beqH]
  | x :: l, b, h => by
    cases b with
    | nil => simp [beqH] at h
    | cons y r =>
      simp only [beqH, Bool.and_eq_true] at h
      rw [beqO_eq h.1, beqH_eq h.2]
@[simp] theorem beqH_self : ∀ a : MH, beqH a a = true
  | [] => rfl
  | x :: l => by simp [beqH, beqH_self l]

/-! ### what has no reference to new things -/
mutual
def clV (n : Nat) : MV → Bool
  | .tup l => clVs n l
  | .lv l => clVs n l
  | .dv _ ws => clVs n ws
  | .fz l => clVs n l
  | .ref m => decide (m < n)
  | _ => true
def clVs (n : Nat) : List MV → Bool
  | [] => true
  | a :: l => clV n a && clVs n l
end
def clKV (n : Nat) : List (MV × MV) → Bool
  | [] => true
  | (_, b) :: l => clV n b && clKV n l
def clFs (n : Nat) : List (Str × MV) → Bool
  | [] => true
  | (_, b) :: l => clV n b && clFs n l
def clO (n : Nat) : MO → Bool
  | .lst l => clVs n l
  | .dct l => clKV n l
  | .fdc l => clKV n l
  | .ins _ l => clFs n l
def clH (n : Nat) : MH → Bool
  | [] => true
  | a :: l => clO n a && clH n l
def clL (n : Nat) : Lo → Bool
  | [] => true
  | some a :: l => clV n a && clL n l
  | none :: l => clL n l

/-! the first n mapped things alone -/
section
variable {K : PySem.W.Frag} {ι ι2 β : List Addr} {H : Hp} {n : Nat}
theorem take_get {m : Nat} {a : Addr} (h : ι[m]? = some a) (hm : m < n) : (ι.take n)[m]? = some a := by
  rw [List.getElem?_take_of_lt hm]; exact h
theorem not_take {a : Addr} (h : a ∉ ι) : a ∉ ι.take n := fun z => h (List.mem_of_mem_take z)
/-- ι2 has the first n of ι, and of ι alone -/
structure Sk (n : Nat) (ι ι2 : List Addr) : Prop where
  sub : ∀ a, a ∈ ι2 → a ∈ ι
  get : ∀ (m : Nat) a, m < n → ι[m]? = some a → ι2[m]? = some a
theorem Sk.take' : Sk n ι (ι.take n) := ⟨fun a h => List.mem_of_mem_take h, fun m a hm h => take_get h hm⟩
theorem Sk.out (k : Sk n ι ι2) {a : Addr} (h : a ∉ ι) : a ∉ ι2 := fun z => h (k.sub a z)
mutual
theorem RepV.shrink (sk : Sk n ι ι2) : ∀ {m : MV} {v : V}, clV n m = true → RepV K ι β H m v → RepV K ι2 β H m v
  | .non, _, _, h => by unfold RepV at h ⊢; exact h
  | .bl _, _, _, h => by unfold RepV at h ⊢; exact h
  | .int _, _, _, h => by unfold RepV at h ⊢; exact h
  | .str _, _, _, h => by unfold RepV at h ⊢; exact h
  | .tup l, _, cl, h => by
    unfold RepV at h ⊢
    unfold clV at cl
    obtain ⟨a, vs, e, q, r⟩ := h
    refine ⟨a, vs, e, ?_, RepVs.shrink sk cl r⟩
    rcases q with ⟨q, x, y⟩ | q
    · exact .inl ⟨q, sk.out x, y⟩
    · exact .inr q
  | .lv l, _, cl, h => by
    unfold RepV at h ⊢
    unfold clV at cl
    obtain ⟨a, vs, e, ⟨q, x, y⟩, r⟩ := h
    exact ⟨a, vs, e, ⟨q, sk.out x, y⟩, RepVs.shrink sk cl r⟩
  | .dv ks ws, _, cl, h => by
    unfold RepV at h ⊢
    unfold clV at cl
    obtain ⟨a, l, e, ⟨q, x, y⟩, k, r⟩ := h
    exact ⟨a, l, e, ⟨q, sk.out x, y⟩, k, RepVs.shrink sk cl r⟩
  | .fz l, _, cl, h => by
    unfold RepV at h ⊢
    unfold clV at cl
    obtain ⟨a, vs, e, q, r⟩ := h
    refine ⟨a, vs, e, ?_, RepVs.shrink sk cl r⟩
    rcases q with ⟨q, x, y⟩ | q
    · exact .inl ⟨q, sk.out x, y⟩
    · exact .inr q
  | .ref m, _, cl, h => by
    unfold RepV at h ⊢
    unfold clV at cl
    obtain ⟨a, e, q⟩ := h
    exact ⟨a, e, sk.get _ _ (of_decide_eq_true cl) q⟩
theorem RepVs.shrink (sk : Sk n ι ι2) : ∀ {l : List MV} {vs : List V}, clVs n l = true → RepVs K ι β H l vs → RepVs K ι2 β H l vs
  | [], _, _, h => by unfold RepVs at h ⊢; exact h
  | m :: l, _, cl, h => by
    unfold clVs at cl
    rw [Bool.and_eq_true] at cl
    obtain ⟨v, r, e, q, t⟩ := h.cons_iff
    subst e
    exact .cons (RepV.shrink sk cl.1 q) (RepVs.shrink sk cl.2 t)
end
theorem RepKV.shrink (sk : Sk n ι ι2) : ∀ {l : List (MV × MV)} {r : List (Key × V)}, clKV n l = true → RepKV K ι β H l r → RepKV K ι2 β H l r
  | [], _, _, h => h
  | _ :: _, _, cl, h => by
    unfold clKV at cl
    rw [Bool.and_eq_true] at cl
    obtain ⟨k', v, r', e, a, b, c⟩ := h
    exact ⟨k', v, r', e, a, b.shrink sk cl.1, RepKV.shrink sk cl.2 c⟩
theorem RepFs.shrink (sk : Sk n ι ι2) : ∀ {l : List (Str × MV)} {r : List (Str × V)}, clFs n l = true → RepFs K ι β H l r → RepFs K ι2 β H l r
  | [], _, _, h => h
  | _ :: _, _, cl, h => by
    unfold clFs at cl
    rw [Bool.and_eq_true] at cl
    obtain ⟨v, r', e, b, c⟩ := h
    exact ⟨v, r', e, b.shrink sk cl.1, RepFs.shrink sk cl.2 c⟩
theorem RepO.shrink {c : C} {a : Addr} {o : MO} (sk : Sk n ι ι2) (cl : clO n o = true) (h : RepO c ι β H a o) : RepO c ι2 β H a o := by
  cases o with
  | lst l => obtain ⟨vs, q, r⟩ := h; exact ⟨vs, q, r.shrink sk cl⟩
  | dct l => obtain ⟨vs, q, r⟩ := h; exact ⟨vs, q, r.shrink sk cl⟩
  | fdc l => obtain ⟨o, vs, q, r⟩ := h; exact ⟨o, vs, q, r.shrink sk cl⟩
  | ins m fs => obtain ⟨dx, l, q, r⟩ := h; exact ⟨dx, l, q, r.shrink sk cl⟩
theorem clH_get : ∀ {h : MH} {m : Nat} {o : MO}, clH n h = true → h[m]? = some o → clO n o = true
  | [], _, _, _, e => by simp at e
  | _ :: _, 0, _, cl, e => by
    unfold clH at cl
    rw [Bool.and_eq_true] at cl
    simp at e; subst e; exact cl.1
  | _ :: _, m + 1, _, cl, e => by
    unfold clH at cl
    rw [Bool.and_eq_true] at cl
    exact clH_get cl.2 (by simpa using e)
theorem clL_get : ∀ {σ : Lo} {i : Nat} {m : MV}, clL n σ = true → σ[i]? = some (some m) → clV n m = true
  | [], _, _, _, e => by simp at e
  | some a :: _, 0, _, cl, e => by
    unfold clL at cl
    rw [Bool.and_eq_true] at cl
    simp at e; subst e; exact cl.1
  | none :: _, 0, _, cl, e => by simp at e
  | some a :: _, i + 1, _, cl, e => by
    unfold clL at cl
    rw [Bool.and_eq_true] at cl
    exact clL_get cl.2 (by simpa using e)
  | none :: _, i + 1, _, cl, e => by
    unfold clL at cl
    exact clL_get cl (by simpa using e)
theorem RepL.shrink {σm : Lo} {σ : St} (sk : Sk n ι ι2) (cl : clL n σm = true) (r : RepL K ι β H σm σ) : RepL K ι2 β H σm σ := ⟨r.len, fun i m e => by
  obtain ⟨v, e1, q⟩ := r.val i m e
  exact ⟨v, e1, q.shrink sk (clL_get cl e)⟩⟩
theorem Rel.shrink {c : C} {mh : MH} (cl : clH n (mh.take n) = true) (r : Rel c ι β H mh) : Rel c (ι.take n) β H (mh.take n) := by
  refine ⟨by simp [r.len], r.nd.sublist (List.take_sublist _ _), fun b hb => ?_, fun m o e => ?_⟩
  · obtain ⟨o, e, x, y⟩ := r.ban b hb
    exact ⟨o, e, not_take x, y⟩
  · have hm : m < n := by
      have := (List.getElem?_eq_some_iff.mp e).1
      rw [List.length_take] at this
      omega
    have e' : mh[m]? = some o := by rw [List.getElem?_take_of_lt hm] at e; exact e
    obtain ⟨a, e1, q⟩ := r.obj m o e'
    exact ⟨a, take_get e1 hm, q.shrink Sk.take' (clH_get cl e)⟩
end
/-! in a held heap all references are to what is mapped -/
section
variable {c : C} {ι β : List Addr} {H : Hp} {n : Nat}
mutual
theorem RepV.clean : ∀ {m : MV} {v : V}, RepV c.K ι β H m v → clV ι.length m = true
  | .non, _, _ => rfl
  | .bl _, _, _ => rfl
  | .int _, _, _ => rfl
  | .str _, _, _ => rfl
  | .tup l, _, h => by
    unfold RepV at h; unfold clV
    obtain ⟨a, vs, e, q, r⟩ := h
    exact RepVs.clean r
  | .lv l, _, h => by
    unfold RepV at h; unfold clV
    obtain ⟨a, vs, e, q, r⟩ := h
    exact RepVs.clean r
  | .dv ks ws, _, h => by
    unfold RepV at h; unfold clV
    obtain ⟨a, l, e, q, k, r⟩ := h
    exact RepVs.clean r
  | .fz l, _, h => by
    unfold RepV at h; unfold clV
    obtain ⟨a, vs, e, q, r⟩ := h
    exact RepVs.clean r
  | .ref m, _, h => by
    unfold RepV at h; unfold clV
    obtain ⟨a, e, q⟩ := h
    exact decide_eq_true (List.getElem?_eq_some_iff.mp q).1
theorem RepVs.clean : ∀ {l : List MV} {vs : List V}, RepVs c.K ι β H l vs → clVs ι.length l = true
  | [], _, _ => rfl
  | m :: l, _, h => by
    obtain ⟨v, r, e, q, t⟩ := h.cons_iff
    unfold clVs
    rw [RepV.clean q, RepVs.clean t]; rfl
end
theorem RepKV.clean : ∀ {l : List (MV × MV)} {r : List (Key × V)}, RepKV c.K ι β H l r → clKV ι.length l = true
  | [], _, _ => rfl
  | _ :: _, _, h => by
    obtain ⟨k', v, r', e, a, b, t⟩ := h
    unfold clKV
    rw [b.clean, RepKV.clean t]; rfl
theorem RepFs.clean : ∀ {l : List (Str × MV)} {r : List (Str × V)}, RepFs c.K ι β H l r → clFs ι.length l = true
  | [], _, _ => rfl
  | _ :: _, _, h => by
    obtain ⟨v, r', e, b, t⟩ := h
    unfold clFs
    rw [b.clean, RepFs.clean t]; rfl
theorem RepO.clean {a : Addr} {o : MO} (h : RepO c ι β H a o) : clO ι.length o = true := by
  cases o with
  | lst l => obtain ⟨vs, q, r⟩ := h; exact r.clean
  | dct l => obtain ⟨vs, q, r⟩ := h; exact r.clean
  | fdc l => obtain ⟨o, vs, q, r⟩ := h; exact r.clean
  | ins m fs => obtain ⟨dx, l, q, r⟩ := h; exact r.clean
theorem clH_of : ∀ {h : MH}, (∀ (m : Nat) o, h[m]? = some o → clO n o = true) → clH n h = true
  | [], _ => rfl
  | a :: l, q => by
    unfold clH
    rw [q 0 a rfl, clH_of (h := l) fun m o e => q (m + 1) o (by simpa using e)]; rfl
theorem Rel.clean {mh : MH} (r : Rel c ι β H mh) : clH mh.length mh = true := clH_of fun m o e => by
  obtain ⟨a, _, q⟩ := r.obj m o e
  rw [r.len]; exact q.clean
end

/-! ### freezing -/
def mapO {α γ : Type} (f : α → Option γ) : List α → Option (List γ)
  | [] => some []
  | a :: l => match f a with
    | none => none
    | some b => match mapO f l with
      | none => none
      | some r => some (b :: r)
def frV (h : MH) (n : Nat) : Nat → MV → Option MV
  | 0, m => if clV n m then some m else none
  | f + 1, m => if clV n m then some m else match m with
    | .tup l => (mapO (frV h n f) l).map .tup
    | .lv l => (mapO (frV h n f) l).map .lv
    | .dv ks ws => (mapO (frV h n f) ws).map (.dv ks)
    | .ref k => match h[k]? with
      | some (.lst l) => (mapO (frV h n f) l).map .lv
      | some (.dct kvs) => (mapO (frV h n f) (kvs.map (·.2))).map (.dv (kvs.map (·.1)))
      | some (.fdc kvs) => (mapO (frV h n f) (kvs.map (·.2))).map (.dv (kvs.map (·.1)))
      | _ => none
    | _ => none
section
variable {c : C} {ι β : List Addr} {H : Hp} {n : Nat} {mh : MH}
theorem RepKV.split : ∀ {l : List (MV × MV)} {r : List (Key × V)}, RepKV c.K ι β H l r → RepKs (l.map (·.1)) (r.map (·.1)) ∧ RepVs c.K ι β H (l.map (·.2)) (r.map (·.2))
  | [], r, h => by
    have e : r = [] := h
    subst e
    exact ⟨rfl, .nil⟩
  | _ :: _, r, h => by
    obtain ⟨k', v, r', e, a, b, t⟩ := h
    subst e
    obtain ⟨p, q⟩ := RepKV.split t
    exact ⟨⟨_, _, rfl, a, p⟩, .cons b q⟩
theorem mapO_rep {ι2 : List Addr} {f : MV → Option MV} (hf : ∀ m m' v, f m = some m' → RepV c.K ι β H m v → RepV c.K ι2 β H m' v) : ∀ {l l' : List MV} {vs : List V}, mapO f l = some l' → RepVs c.K ι β H l vs → RepVs c.K ι2 β H l' vs
  | [], _, _, e, h => by
    simp only [mapO, Option.some.injEq] at e
    subst e
    rw [h.nil_iff]; exact .nil
  | a :: l, _, _, e, h => by
    obtain ⟨v, r, rfl, q, t⟩ := h.cons_iff
    unfold mapO at e
    cases e1 : f a with
    | none => simp [e1] at e
    | some b =>
      cases e2 : mapO f l with
      | none => simp [e1, e2] at e
      | some r' =>
        simp only [e1, e2, Option.some.injEq] at e
        subst e
        exact .cons (hf _ _ _ e1 q) (mapO_rep hf e2 t)
theorem not_take_of {a : Addr} {k : Nat} (nd : ι.Nodup) (e : ι[k]? = some a) (hk : n ≤ k) : a ∉ ι.take n := fun z => by
  obtain ⟨j, hj, ej⟩ := List.getElem_of_mem z
  rw [List.length_take] at hj
  have e1 : ι[j]? = some a := by
    have : (ι.take n)[j]? = some a := by rw [List.getElem?_eq_getElem (by rw [List.length_take]; exact hj), ej]
    rw [List.getElem?_take_of_lt (by omega)] at this
    exact this
  obtain ⟨h1, e2⟩ := List.getElem?_eq_some_iff.mp e
  obtain ⟨h2, e3⟩ := List.getElem?_eq_some_iff.mp e1
  have := (List.getElem_inj nd).mp (e2.trans e3.symm)
  omega
theorem frV_rep {ι2 : List Addr} {hd : MH} (rel : Rel c ι β H mh) (sk : Sk n ι ι2) (hk : ∀ (k : Nat) a o, n ≤ k → hd[k]? = some o → (∀ d fs, o ≠ .ins d fs) → ι[k]? = some a → mh[k]? = some o ∧ a ∉ ι2) : ∀ (f : Nat) (m m' : MV) (v : V), frV hd n f m = some m' → RepV c.K ι β H m v → RepV c.K ι2 β H m' v
  | 0, m, m', v, e, h => by
    unfold frV at e
    split at e
    · rename_i cl
      cases e
      exact h.shrink sk cl
    · cases e
  | f + 1, m, m', v, e, h => by
    unfold frV at e
    split at e
    · rename_i cl
      cases e
      exact h.shrink sk cl
    · rename_i ncl
      cases m with
      | tup l =>
        simp only [Option.map_eq_some_iff] at e
        obtain ⟨l', e, rfl⟩ := e
        unfold RepV at h ⊢
        obtain ⟨a, vs, e', q, r⟩ := h
        refine ⟨a, vs, e', ?_, mapO_rep (frV_rep rel sk hk f) e r⟩
        rcases q with ⟨q, x, y⟩ | q
        · exact .inl ⟨q, sk.out x, y⟩
        · exact .inr q
      | lv l =>
        simp only [Option.map_eq_some_iff] at e
        obtain ⟨l', e, rfl⟩ := e
        unfold RepV at h ⊢
        obtain ⟨a, vs, e', ⟨q, x, y⟩, r⟩ := h
        exact ⟨a, vs, e', ⟨q, sk.out x, y⟩, mapO_rep (frV_rep rel sk hk f) e r⟩
      | dv ks ws =>
        simp only [Option.map_eq_some_iff] at e
        obtain ⟨l', e, rfl⟩ := e
        unfold RepV at h ⊢
        obtain ⟨a, l, e', ⟨q, x, y⟩, k, r⟩ := h
        exact ⟨a, l, e', ⟨q, sk.out x, y⟩, k, mapO_rep (frV_rep rel sk hk f) e r⟩
      | ref k =>
        unfold RepV at h
        obtain ⟨a, rfl, q⟩ := h
        have hnk : n ≤ k := by
          unfold clV at ncl
          simp at ncl
          exact ncl
        have nb : a ∉ β := fun z => by
          obtain ⟨_, _, x, _⟩ := rel.ban a z
          exact x (List.mem_of_getElem? q)
        obtain ⟨o0, eo0, ro⟩ := rel.at q
        cases eo : hd[k]? with
        | none => simp only [eo] at e; cases e
        | some o =>
        simp only [eo] at e
        cases o with
        | lst l =>
          obtain ⟨eo1, na⟩ := hk k a _ hnk eo (by intro d fs z; cases z) q
          rw [eo0] at eo1; cases eo1
          simp only [Option.map_eq_some_iff] at e
          obtain ⟨l', e, rfl⟩ := e
          obtain ⟨vs, hv, r⟩ := ro
          unfold RepV
          exact ⟨a, vs, rfl, ⟨hv, na, nb⟩, mapO_rep (frV_rep rel sk hk f) e r⟩
        | dct kvs =>
          obtain ⟨eo1, na⟩ := hk k a _ hnk eo (by intro d fs z; cases z) q
          rw [eo0] at eo1; cases eo1
          simp only [Option.map_eq_some_iff] at e
          obtain ⟨l', e, rfl⟩ := e
          obtain ⟨l, hv, r⟩ := ro
          obtain ⟨r1, r2⟩ := r.split
          unfold RepV
          exact ⟨a, l, rfl, ⟨⟨_, hv, .inl rfl⟩, na, nb⟩, r1, mapO_rep (frV_rep rel sk hk f) e r2⟩
        | fdc kvs =>
          obtain ⟨eo1, na⟩ := hk k a _ hnk eo (by intro d fs z; cases z) q
          rw [eo0] at eo1; cases eo1
          simp only [Option.map_eq_some_iff] at e
          obtain ⟨l', e, rfl⟩ := e
          obtain ⟨od, l, hv, r⟩ := ro
          obtain ⟨r1, r2⟩ := r.split
          unfold RepV
          exact ⟨a, l, rfl, ⟨⟨_, hv, .inr ⟨od, rfl⟩⟩, na, nb⟩, r1, mapO_rep (frV_rep rel sk hk f) e r2⟩
        | ins m fs => cases e
      | non => cases e
      | bl _ => cases e
      | int _ => cases e
      | str _ => cases e
      | fz _ => cases e
end

/-! ### dropping what is left over -/
def keptH (h h' : MH) : Bool := beqH (h'.take h.length) h || clH h.length (h'.take h.length)
theorem keptH_cl {c : C} {ι β : List Addr} {H : Hp} {h h' : MH} (r : Rel c ι β H h) (k : keptH h h' = true) : clH h.length (h'.take h.length) = true := by
  unfold keptH at k
  rw [Bool.or_eq_true] at k
  rcases k with k | k
  · rw [beqH_eq k]; exact r.clean
  · exact k
/-- behind a call: all new things dropped, the answer frozen -/
def gcF (h : MH) (v : MV) (h' : MH) : R MV :=
  if h'.length ≤ h.length then .ok v h' else
    if keptH h h' then match frV h' h.length 12 v with
      | some v2 => .ok v2 (h'.take h.length)
      | none => .ok v h'
    else .ok v h'
/-- .. the answer kept as one new thing -/
def gcR (h : MH) (v : MV) (h' : MH) : R MV :=
  if keptH h h' then match v with
    | .ref k => if k < h.length then .ok v h' else match h'[k]? with
      | some (.lst l) => match mapO (frV (h'.set k (.ins 0 [])) h.length 12) l with
        | some l2 => .ok (.ref h.length) (h'.take h.length ++ [.lst l2])
        | none => .ok v h'
      | some (.dct kvs) => match mapO (frV (h'.set k (.ins 0 [])) h.length 12) (kvs.map (·.2)) with
        | some l2 => .ok (.ref h.length) (h'.take h.length ++ [.dct ((kvs.map (·.1)).zip l2)])
        | none => .ok v h'
      | _ => .ok v h'
    | _ => .ok v h'
  else .ok v h'
section
variable {c : C} {ι ι' β : List Addr} {H H' : Hp} {mh h' : MH} {v : MV}
theorem Fr.take (f : Fr ι H ι' H') : ι'.take ι.length = ι ∧ Fr ι H ι H' := by
  obtain ⟨t, e⟩ := f.pre
  refine ⟨by rw [e]; simp, ⟨[], by simp⟩, f.keep, fun a x y => absurd x y, f.frz⟩
theorem gcF_of {Q : VK} {W : Value → Option Addr → Hp → Prop} (r0 : Rel c ι β H mh) (p : Post c ι β H (RV c) Q W (gcF mh v h')) : Post c ι β H (RV c) Q W (.ok v h') := by
  unfold gcF at p
  split at p
  · exact p
  · split at p
    · rename_i k
      cases e : frV h' mh.length 12 v with
      | none => simp only [e] at p; exact p
      | some v2 =>
        simp only [e] at p
        intro ι' H' u f rel rv
        obtain ⟨e1, f1⟩ := f.take
        have rel2 := rel.shrink (keptH_cl r0 k)
        have rv2 := frV_rep (n := mh.length) (ι2 := ι'.take mh.length) (hd := h') rel Sk.take' (fun k a o hk eo _ q => ⟨eo, not_take_of rel.nd q hk⟩) 12 v v2 u e rv
        rw [r0.len, e1] at rel2 rv2
        rw [r0.len] at p
        exact p ι H' u f1 rel2 rv2
    · exact p
theorem RepKV.zip : ∀ {ks : List MV} {ws : List MV} {l : List (Key × V)}, RepKs ks (l.map (·.1)) → RepVs c.K ι β H ws (l.map (·.2)) → RepKV c.K ι β H (ks.zip ws) l
  | [], ws, l, hk, hv => by
    have e : l.map (·.1) = [] := hk
    have e2 : l = [] := by simpa using e
    subst e2
    rfl
  | k :: ks, ws, l, hk, hv => by
    obtain ⟨k', r', e, a, t⟩ := hk
    cases l with
    | nil => simp at e
    | cons p l =>
      simp only [List.map_cons, List.cons.injEq] at e
      obtain ⟨rfl, rfl⟩ := e
      cases ws with
      | nil => have := hv.length; simp at this
      | cons w ws =>
        obtain ⟨u, r, e2, q, t2⟩ := hv.cons_iff
        simp only [List.map_cons, List.cons.injEq] at e2
        obtain ⟨rfl, rfl⟩ := e2
        exact ⟨p.1, p.2, l, rfl, a, q, RepKV.zip t t2⟩
theorem gcR_of {Q : VK} {W : Value → Option Addr → Hp → Prop} (r0 : Rel c ι β H mh) (p : Post c ι β H (RV c) Q W (gcR mh v h')) : Post c ι β H (RV c) Q W (.ok v h') := by
  unfold gcR at p
  split at p
  · rename_i k
    have cl := keptH_cl r0 k
    cases v with
    | ref m =>
      simp only at p
      split at p
      · exact p
      · rename_i hm
        have hm' : ι.length ≤ m := by rw [← r0.len]; omega
        -- what all ways have in common
        have key : ∀ (mo : MO), (∀ ι' H' a, ι'[m]? = some a → Rel c ι' β H' h' → Sk ι.length ι' (ι'.take ι.length ++ [a]) → (∀ (k : Nat) b o, ι.length ≤ k → (h'.set m (.ins 0 []))[k]? = some o → (∀ d fs, o ≠ .ins d fs) → ι'[k]? = some b → h'[k]? = some o ∧ b ∉ ι'.take ι.length ++ [a]) → RepO c (ι'.take ι.length ++ [a]) β H' a mo) →
            Post c ι β H (RV c) Q W (.ok (.ref mh.length) (h'.take mh.length ++ [mo])) → Post c ι β H (RV c) Q W (.ok (.ref m) h') := by
          intro mo hmo p ι' H' u f rel rv
          unfold RepV at rv
          obtain ⟨a, rfl, ea⟩ := rv
          obtain ⟨e1, f1⟩ := f.take
          have na : a ∉ ι := by
            have := not_take_of (n := ι.length) rel.nd ea hm'
            rwa [e1] at this
          have hn : H a = none := f.news a (List.mem_of_getElem? ea) na
          have sk : Sk ι.length ι' (ι'.take ι.length ++ [a]) := by
            refine ⟨fun x hx => ?_, fun j x hj ex => ?_⟩
            · rcases List.mem_append.mp hx with z | z
              · exact List.mem_of_mem_take z
              · have : x = a := by simpa using z
                rw [this]; exact List.mem_of_getElem? ea
            · rw [List.getElem?_append_left (by rw [e1]; exact hj)]
              exact take_get ex hj
          have ro := hmo ι' H' a ea rel sk fun k b o hk eo hi eb => by
            have hkm : k ≠ m := by
              rintro rfl
              rw [List.getElem?_set_self (by rw [rel.len]; exact (List.getElem?_eq_some_iff.mp ea).1)] at eo
              cases eo
              exact hi _ _ rfl
            rw [List.getElem?_set_ne (Ne.symm hkm)] at eo
            refine ⟨eo, fun z => ?_⟩
            rcases List.mem_append.mp z with z | z
            · exact not_take_of rel.nd eb hk z
            · have : b = a := by simpa using z
              subst this
              obtain ⟨h1, e2⟩ := List.getElem?_eq_some_iff.mp eb
              obtain ⟨h2, e3⟩ := List.getElem?_eq_some_iff.mp ea
              exact hkm ((List.getElem_inj rel.nd).mp (e2.trans e3.symm))
          rw [e1] at ro sk
          rw [r0.len] at p cl
          have hl : (h'.take ι.length).length = ι.length := by
            rw [List.length_take, rel.len]
            have : ι.length ≤ ι'.length := by
              obtain ⟨t, e⟩ := f.pre
              rw [e, List.length_append]; omega
            omega
          refine p (ι ++ [a]) H' (.ref a) ⟨⟨[a], rfl⟩, f.keep, fun b hb nb => ?_, f.frz⟩ ⟨?_, ?_, fun b hb => ?_, fun j o' e' => ?_⟩ ?_
          · rcases List.mem_append.mp hb with z | z
            · exact absurd z nb
            · have : b = a := by simpa using z
              rw [this]; exact hn
          · simp only [List.length_append, hl, List.length_cons, List.length_nil]
          · refine List.nodup_append.mpr ⟨r0.nd, by simp, fun x hx b hb => ?_⟩
            have : b = a := by simpa using hb
            subst this
            rintro rfl
            exact na hx
          · obtain ⟨o', e', x, y⟩ := rel.ban b hb
            exact ⟨o', e', sk.out x, y⟩
          · by_cases hj : j < ι.length
            · rw [List.getElem?_append_left (by rw [hl]; exact hj)] at e'
              have e2 : h'[j]? = some o' := by rw [List.getElem?_take_of_lt hj] at e'; exact e'
              obtain ⟨b, eb, rb⟩ := rel.obj j o' e2
              exact ⟨b, sk.get _ _ hj eb, rb.shrink sk (clH_get cl e')⟩
            · rw [List.getElem?_append_right (by rw [hl]; omega), hl] at e'
              have hz : j - ι.length = 0 := by
                have := (List.getElem?_eq_some_iff.mp e').1
                simp at this
                exact this
              rw [hz] at e'
              simp at e'
              subst e'
              exact ⟨a, by rw [List.getElem?_append_right (by omega), hz]; rfl, ro⟩
          · unfold RepV
            exact ⟨a, rfl, by rw [List.getElem?_append_right (Nat.le_refl _)]; simp⟩
        cases eo : h'[m]? with
        | none => simp only [eo] at p; exact p
        | some o =>
          simp only [eo] at p
          cases o with
          | lst l =>
            simp only at p
            cases el : mapO (frV (h'.set m (.ins 0 [])) mh.length 12) l with
            | none => simp only [el] at p; exact p
            | some l2 =>
              simp only [el] at p
              refine key _ (fun ι' H' a ea rel sk hk => ?_) p
              obtain ⟨o2, e2, r2⟩ := rel.at ea
              rw [eo] at e2; cases e2
              obtain ⟨vs, hv, r⟩ := r2
              rw [r0.len] at el
              exact ⟨vs, hv, mapO_rep (frV_rep rel sk hk 12) el r⟩
          | dct kvs =>
            simp only at p
            cases el : mapO (frV (h'.set m (.ins 0 [])) mh.length 12) (kvs.map (·.2)) with
            | none => simp only [el] at p; exact p
            | some l2 =>
              simp only [el] at p
              refine key _ (fun ι' H' a ea rel sk hk => ?_) p
              obtain ⟨o2, e2, r2⟩ := rel.at ea
              rw [eo] at e2; cases e2
              obtain ⟨l, hv, r⟩ := r2
              obtain ⟨q1, q2⟩ := r.split
              rw [r0.len] at el
              exact ⟨l, hv, RepKV.zip q1 (mapO_rep (frV_rep rel sk hk 12) el q2)⟩
          | fdc kvs => exact p
          | ins d fs => exact p
    | _ => exact p
  · exact p
end
end MP

/-! Mirror layer, part 4: defs, calls, loops, comprehensions. -/
namespace MP
open PySem PySem.Spec PyProof.Rows L2

/-! ### a loop's turn: what is left over is dropped -/
def killL (ks : List Nat) (σ : Lo) : Lo := ks.foldr (fun i l => l.set i none) σ
def gcL (ks : List Nat) (h : MH) (σ : Lo) (h' : MH) : Lo × MH :=
  if h'.length ≤ h.length then (killL ks σ, h') else if clL h.length (killL ks σ) && keptH h h' then (killL ks σ, h'.take h.length) else (killL ks σ, h')
def sGc (ks : List Nat) (body : SM) : SM := fun σ h => match body σ h with
  | .nx σ2 h2 => .nx (gcL ks h σ2 h2).1 (gcL ks h σ2 h2).2
  | .ct σ2 h2 => .ct (gcL ks h σ2 h2).1 (gcL ks h σ2 h2).2
  | x => x
section
variable {c : C} {ι ι' β : List Addr} {H H' : Hp} {mh h' : MH} {σm : Lo} {σ : St}
theorem RepL.kill (ks : List Nat) (r : RepL c.K ι β H σm σ) : RepL c.K ι β H (killL ks σm) σ := by
  induction ks with
  | nil => exact r
  | cons i ks ih =>
    refine ⟨by show ((killL ks σm).set i none).length = _; rw [List.length_set]; exact ih.len, fun j m e => ?_⟩
    have e' : ((killL ks σm).set i none)[j]? = some (some m) := e
    by_cases hj : j = i
    · subst hj
      rw [List.getElem?_set] at e'
      simp at e'
    · rw [List.getElem?_set_ne (Ne.symm hj)] at e'
      exact ih.val j m e'
theorem gcL_of (ks : List Nat) (r0 : Rel c ι β H mh) (f : Fr ι H ι' H') (rel : Rel c ι' β H' h') (rl : RepL c.K ι' β H' σm σ) :
    ∃ ι2, Fr ι H ι2 H' ∧ Rel c ι2 β H' (gcL ks mh σm h').2 ∧ RepL c.K ι2 β H' (gcL ks mh σm h').1 σ := by
  unfold gcL
  split
  · exact ⟨ι', f, rel, rl.kill ks⟩
  · split
    · rename_i k
      rw [Bool.and_eq_true] at k
      obtain ⟨e1, f1⟩ := f.take
      have rel2 := rel.shrink (keptH_cl r0 k.2)
      have rl2 := (rl.kill ks).shrink (Sk.take' (n := mh.length)) k.1
      rw [r0.len, e1] at rel2 rl2
      rw [r0.len]
      exact ⟨ι, f1, rel2, rl2⟩
    · exact ⟨ι', f, rel, rl.kill ks⟩
theorem sGc_of {D : Ends} {W : WX} {ks : List Nat} {body : SM} (r0 : Rel c ι β H mh) (p : PostS c ι β H D W (sGc ks body σm mh)) : PostS c ι β H D W (body σm mh) := by
  unfold sGc at p
  cases e : body σm mh with
  | nx σ2 h2 =>
    simp only [e] at p
    intro ι' H' σ' f rel rl
    obtain ⟨ι2, f2, rel2, rl2⟩ := gcL_of ks r0 f rel rl
    exact p ι2 H' σ' f2 rel2 rl2
  | ct σ2 h2 =>
    simp only [e] at p
    intro ι' H' σ' f rel rl
    obtain ⟨ι2, f2, rel2, rl2⟩ := gcL_of ks r0 f rel rl
    exact p ι2 H' σ' f2 rel2 rl2
  | rt v h2 => simp only [e] at p; exact p
  | bk σ2 h2 => simp only [e] at p; exact p
  | ex x σ2 h2 => simp only [e] at p; exact p
  | bad => simp only [e] at p; exact p
theorem ss_gc {X : Cx} {W : WX} {st : List Stmt} {body : SM} (ks : List Nat) (h : PSs X st (tS c W body)) : PSs X st (tS c W (sGc ks body)) :=
  h.wk fun D σ H ⟨ι, β, mh, σm, rel, rl, p⟩ => ⟨ι, β, mh, σm, rel, rl, sGc_of rel p⟩
end

/-! ### defs -/
@[simp] def fnM (N : Nat) (body : SM) (args : List MV) (h : MH) : R MV :=
  match body (args.map some ++ List.replicate (N - args.length) none) h with
  | .nx _ h' => .ok .non h'
  | .rt v h' => .ok v h'
  | .ex e _ h' => .ex e h'
  | _ => .bad
def spM (c : C) (n : Nat) (m : List MV → MH → R MV) : Sp := fun vs H Q E => vs.length = n ∧ ∃ ι β mh ms, Rel c ι β H mh ∧ RepVs c.K ι β H ms vs ∧ Post c ι β H (RV c) Q (fun cls d H' => E cls d H') (m ms mh)
theorem RepL.start {K : PySem.W.Frag} {ι β : List Addr} {H : Hp} (n : Nat) : ∀ {ms : List MV} {vs : List V}, RepVs K ι β H ms vs → RepL K ι β H (ms.map some ++ List.replicate n none) (vs.map some ++ List.replicate n none) := by
  intro ms vs r
  refine ⟨by simp [r.length], fun i m e => ?_⟩
  by_cases hi : i < ms.length
  · rw [List.getElem?_append_left (by simpa using hi)] at e
    rw [List.getElem?_map] at e
    cases e1 : ms[i]? with
    | none => rw [e1] at e; simp at e
    | some m' =>
      rw [e1] at e
      simp at e
      subst e
      obtain ⟨v, ev, q⟩ := r.get e1
      refine ⟨v, ?_, q⟩
      rw [List.getElem?_append_left (by simp only [List.length_map]; rw [← r.length]; exact hi), List.getElem?_map, ev]
      rfl
  · rw [List.getElem?_append_right (by simp only [List.length_map]; omega)] at e
    rw [List.getElem?_replicate] at e
    split at e <;> simp at e
section
variable {P : Program} {w : World} {K : PySem.W.Frag} {mg : Str → Option Value} {base : Heap}
theorem fn_okM {c : C} {x qual : Str} {st : Stmt} {f : Addr} {fd : FuncData} {N ps : List Str} {k : Nat} {body : SM} (F : Fun K x qual st f fd) (S : FnScope N ps (defScope st))
    (hb : ∀ (cdv : Value) (A : Around) (outer : List Env) (s : Shared) (H : Hp) (E : XK), Room k (A.deeper (envOfC qual (defScope st) s.heap.objs.size f cdv)) →
      PSs (cxOf (L2.CX P w) P w K mg base N qual (defScope st) f cdv A outer s H E) (defBody st) (tS c (fun cls d _ H' => E cls d H') body)) :
    FnOk P w K mg base (L2.CX P w) (k + 1) f fd ps (spM c ps.length (fnM N.length body)) := by
  refine F.okX S (fun vs H Q E h => h.1) (fun cdv A outer s H vs Q E hr h => ?_)
  refine ⟨_, hb cdv A outer s H E hr, ?_⟩
  obtain ⟨hl, ι, β, mh, ms, rel, rv, p⟩ := h
  refine ⟨ι, β, mh, _, rel, RepL.start (N.length - vs.length) rv, ?_⟩
  unfold fnM at p
  rw [show ms.length = vs.length from rv.length] at p
  cases e : body (ms.map some ++ List.replicate (N.length - vs.length) none) mh with
  | nx σ h' => simp only [e] at p; exact fun ι' H' σ' f rel' rl' => p ι' H' .non f rel' (rnon _ _ _)
  | rt v h' => simp only [e] at p; exact p
  | ex x σ h' => simp only [e] at p; exact fun ι' H' cls d σ' f rel' rl' rx => p ι' H' cls d f rel' rx
  | bk σ h' => simp only [e] at p; exact p.elim
  | ct σ h' => simp only [e] at p; exact p.elim
  | bad => simp only [e] at p; exact p.elim
end

/-! ### calls -/
def cN (n : Nat) (m : List MV → MH → R MV) (as : List MV) (h : MH) : R MV := if as.length = n then m as h else .bad
def cF (n : Nat) (m : List MV → MH → R MV) (as : List MV) (h : MH) : R MV := if as.length = n then bindR (m as h) (gcF h) else .bad
def cR (n : Nat) (m : List MV → MH → R MV) (as : List MV) (h : MH) : R MV := if as.length = n then bindR (m as h) (gcR h) else .bad
/-- a way to call -/
def Way (c : C) (g : Nat → (List MV → MH → R MV) → List MV → MH → R MV) : Prop := ∀ (n : Nat) m ι β H mh as xs Q W, Rel c ι β H mh → RepVs c.K ι β H as xs → Post c ι β H (RV c) Q W (g n m as mh) → as.length = n ∧ Post c ι β H (RV c) Q W (m as mh)
theorem way_N {c : C} : Way c cN := fun n m ι β H mh as xs Q W rel rv p => by
  unfold cN at p
  split at p
  · exact ⟨by assumption, p⟩
  · exact p.elim
theorem way_F {c : C} : Way c cF := fun n m ι β H mh as xs Q W rel rv p => by
  unfold cF at p
  split at p
  · refine ⟨by assumption, ?_⟩
    cases e : m as mh with
    | ok v h' => rw [e] at p; exact gcF_of rel p
    | ex x h' => rw [e] at p; exact p
    | bad => rw [e] at p; exact p
  · exact p.elim
theorem way_R {c : C} : Way c cR := fun n m ι β H mh as xs Q W rel rv p => by
  unfold cR at p
  split at p
  · refine ⟨by assumption, ?_⟩
    cases e : m as mh with
    | ok v h' => rw [e] at p; exact gcR_of rel p
    | ex x h' => rw [e] at p; exact p
    | bad => rw [e] at p; exact p
  · exact p.elim
section
variable {X : Cx} {c : C} {W : WX} {k n : Nat} {f : Addr} {fd : FuncData} {ps : List Str} {m : List MV → MH → R MV} {g : Nat → (List MV → MH → R MV) → List MV → MH → R MV} {x : Str} {p pos : Pos} {e : Expr} {es : List Expr} {rs : AM}
theorem e_call (hg : Way c g) (F : FnOk X.prog X.w X.K X.mg X.base (L2.CX X.prog X.w) k f fd ps (spM c n m)) (hr : Room k X.A) (hgl : Gl X x) (hm : X.mg x = some (.ref f)) (hk : PySem.W.keepIn X.K (.ref f) = true) (hb : Binds X.K fd ps []) (tk : Takes X W)
    (ha : PA X (e :: es) (tA c W rs)) (hdb : (x == ("__debug__" : Str)) = false := by decide) (he : starEach (e :: es) X.env = (false, eval e X.env) :: starEach es X.env := by rfl) (hpl : (backTo pos (starEach es X.env)).any (·.1) = false := by rfl) :
    PE X (.Call (.Name x p) (e :: es) [] pos) (tE c W (mN (g n m) rs)) := by
  refine (pe_callS F hr hgl hm hk hb (passAt tk) ha hdb he hpl).wk fun σ H Q h => ?_
  obtain ⟨ι, β, mh, σm, rel, rl, p⟩ := h
  refine (run1 rel rl p).mono fun xs H1 ⟨ι1, mh1, as, f1, rel1, rl1, ra1, p1⟩ => ?_
  obtain ⟨hl, p2⟩ := hg n m ι1 β H1 mh1 as xs _ _ rel1 ra1 p1
  exact ⟨by rw [← ra1.length]; exact hl, ι1, β, mh1, as, rel1, ra1, p2⟩
theorem pe_callS0 {sp : Sp} {E : St → XK} (F : FnOk X.prog X.w X.K X.mg X.base (L2.CX X.prog X.w) k f fd ps sp) (hr : Room k X.A) (hg : Gl X x) (hm : X.mg x = some (.ref f)) (hk : PySem.W.keepIn X.K (.ref f) = true) (hb : Binds X.K fd ps []) (hx : ∀ σ, PassesAt (L2.CX X.prog X.w) X σ (E σ))
    (hdb : (x == ("__debug__" : Str)) = false := by decide) : PE X (.Call (.Name x p) [] [] pos) (fun σ H Q => sp [] H Q (E σ)) := by
  refine ⟨fun pins s σ H Q I h => ?_⟩
  refine wpAny_Call_Name_kw (ld_glob I hg hm ?_ hdb)
  exact PySem.W.callWith_K0 I.kIn hk (run_fnS (us := []) F hr hb (hx σ) I .nil h)
theorem e_call0 (hg : Way c g) (F : FnOk X.prog X.w X.K X.mg X.base (L2.CX X.prog X.w) k f fd ps (spM c n m)) (hr : Room k X.A) (hgl : Gl X x) (hm : X.mg x = some (.ref f)) (hk : PySem.W.keepIn X.K (.ref f) = true) (hb : Binds X.K fd ps []) (tk : Takes X W)
    (hdb : (x == ("__debug__" : Str)) = false := by decide) :
    PE X (.Call (.Name x p) [] [] pos) (tE c W (mN (g n m) mNil)) := by
  refine (pe_callS0 F hr hgl hm hk hb (passAt tk) hdb).wk fun σ H Q h => ?_
  obtain ⟨ι, β, mh, σm, rel, rl, p⟩ := h
  obtain ⟨hl, p2⟩ := hg n m ι β H mh [] [] _ _ rel .nil p
  exact ⟨by simpa using hl, ι, β, mh, [], rel, .nil, p2⟩
/-! keywords alone; nothing is raised there -/
theorem pe_callK0 {sp : Sp} {E : XK} {CX : CXT} {ks : List Str} {kws : List Keyword} {tk : TA} {gg : List Value → List Value → List Value} {gV : List V → List V → List V} (F : FnOk X.prog X.w X.K X.mg X.base CX k f fd ps sp) (hr : Room k X.A) (hg : Gl X x) (hm : X.mg x = some (.ref f)) (hk : PySem.W.keepIn X.K (.ref f) = true) (hb : KBinds X.K fd ps ks gg gV) (hx : Passes CX X E)
    (hkw : PK X kws tk) (hall : (backToKw pos (keywordEach kws X.env)).all (·.1.isSome) = true := by rfl) (hks : (backToKw pos (keywordEach kws X.env)).filterMap (·.1) = ks := by rfl)
    (hdb : (x == ("__debug__" : Str)) = false := by decide) (hpl : ((backTo pos (starEach [] X.env)).any (·.1) || (backToKw pos (keywordEach kws X.env)).any (·.1.isNone)) = false := by rfl) :
    PE X (.Call (.Name x p) [] kws pos) (tCallK sp gV E tNil tk) := by
  refine ⟨fun pins s σ H Q I h => ?_⟩
  refine wpAny_Call_Name_kw (ld_glob I hg hm ?_ hdb)
  refine PySem.W.callWith_KW0 (h₀ := X.base) I.ok.mod.kin hk hall ?_ hpl
  refine thn (hkw.run pos pins s σ H _ I h) fun ws s2 ⟨zs, H2, I2, rz, q2⟩ => ⟨I2.kIn, ?_⟩
  rw [hks]
  exact run_fnk (us := []) (vs := []) F hr hb hx I2 .nil rz q2
theorem k_nil : PK X [] (tA c W mNil) := ⟨fun pos pins s σ H Q I ⟨ι, β, mh, σm, rel, rl, p⟩ => pk_nil.run pos pins s σ H Q I (p ι H [] .refl rel .nil)⟩
theorem k_cons {kws : List Keyword} {nm : Option Str} {kpos : Pos} {ra : EM} (ha : PE X e (tE c W ra)) (hr : PK X kws (tA c W rs)) : PK X (⟨nm, e, kpos⟩ :: kws) (tA c W (mCons ra rs)) :=
  ⟨fun pos pins s σ H Q I h => (pk_cons ha hr).run pos pins s σ H Q I (a_cons' (e := e) (es := []) h)⟩
theorem e_callK0 {ks : List Str} {kws : List Keyword} {gg : List Value → List Value → List Value} {gV : List V → List V → List V} (gM : List MV → List MV) (hg : Way c g) (F : FnOk X.prog X.w X.K X.mg X.base (L2.CX X.prog X.w) k f fd ps (spM c n m)) (hr : Room k X.A) (hgl : Gl X x) (hm : X.mg x = some (.ref f)) (hk : PySem.W.keepIn X.K (.ref f) = true) (hb : KBinds X.K fd ps ks gg gV)
    (hM : ∀ ι β H ms vs, RepVs c.K ι β H ms vs → RepVs c.K ι β H (gM ms) (gV [] vs))
    (hkw : PK X kws (tA c W rs)) (hall : (backToKw pos (keywordEach kws X.env)).all (·.1.isSome) = true := by rfl) (hks : (backToKw pos (keywordEach kws X.env)).filterMap (·.1) = ks := by rfl)
    (hdb : (x == ("__debug__" : Str)) = false := by decide) (hpl : ((backTo pos (starEach [] X.env)).any (·.1) || (backToKw pos (keywordEach kws X.env)).any (·.1.isNone)) = false := by rfl) :
    PE X (.Call (.Name x p) [] kws pos) (tE c W (mN (fun as h => match g n m (gM as) h with | .ok v h' => .ok v h' | _ => .bad) rs)) := by
  refine (pe_callK0 (E := E0) F hr hgl hm hk hb passL hkw hall hks hdb hpl).wk fun σ H Q h => ?_
  obtain ⟨ι, β, mh, σm, rel, rl, p⟩ := h
  show tA c W rs σ H _
  refine (run1 rel rl p).mono fun xs H1 ⟨ι1, mh1, as, f1, rel1, rl1, ra1, p1⟩ => ?_
  have rM := hM _ _ _ _ _ ra1
  have p3 : Post c ι1 β H1 (RV c) Q (fun cls d H' => E0 cls d H') (g n m (gM as) mh1) := by
    cases e : g n m (gM as) mh1 with
    | ok v h' => simp only [e] at p1; exact p1
    | ex a h' => simp only [e] at p1; exact p1.elim
    | bad => simp only [e] at p1; exact p1
  obtain ⟨hl, p2⟩ := hg n m ι1 β H1 mh1 (gM as) _ _ _ rel1 rM p3
  exact ⟨by rw [← rM.length]; exact hl, ι1, β, mh1, gM as, rel1, rM, p2⟩
end

/-! ### loops -/
def forGo (chk : MH → Bool) (g : GM) (body : SM) : List MV → SM
  | [], σ, h => if chk h = true then .nx σ h else .bad
  | x :: xs, σ, h => if chk h = true then match g x σ h with
      | .ok σ1 h1 => match body σ1 h1 with
        | .nx σ2 h2 => forGo chk g body xs σ2 h2
        | .ct σ2 h2 => forGo chk g body xs σ2 h2
        | .bk σ2 h2 => .nx σ2 h2
        | .rt v h2 => .rt v h2
        | .ex e σ2 h2 => .ex e σ2 h2
        | .bad => .bad
      | _ => .bad
    else .bad
structure Src (c : C) (J : It) (items : List MV) (chk : MH → Bool) (inv : List Addr → List Addr → Hp → Prop) : Prop where
  mono : ∀ ι β H ι' H', Fr ι H ι' H' → inv ι β H → inv ι' β H'
  go : ∀ ι β H mh (i : Nat) m, Rel c ι β H mh → inv ι β H → chk mh = true → items[i]? = some m → J.go i H ∧ ∀ x H', J.yld i H x H' → Fr ι H ι H' ∧ Rel c ι β H' mh ∧ RepV c.K ι β H' m x
  stop : ∀ ι β H mh, Rel c ι β H mh → inv ι β H → chk mh = true → J.stop items.length H
  ban : ∀ ι β H D o, inv ι β H → H D = none → inv ι (D :: β) (upd H D o)
  turn : ∀ ι β H D o, inv ι (D :: β) H → inv ι (D :: β) (upd H D o)
theorem for_of {c : C} {J : It} {items : List MV} {chk : MH → Bool} {inv : List Addr → List Addr → Hp → Prop} {ι β : List Addr} {H : Hp} {mh : MH} {σm : Lo} {σ : St} {D : Ends} {W : WX} {g : GM} {body : SM}
    (S : Src c J items chk inv) (rel : Rel c ι β H mh) (rl : RepL c.K ι β H σm σ) (hi : inv ι β H) (p : PostS c ι β H D W (forGo chk g body items σm mh)) :
    ∃ W' : Nat → Nat → St → Hp → Prop, (∃ m, W' 0 m σ H) ∧ ∀ i m σ H, W' i m σ H →
      (J.stop i H ∧ D.nx σ H) ∨ (J.go i H ∧ ∃ N : St → Hp → Prop, (∀ σ' H', N σ' H' → ∃ m', m' < m ∧ W' (i + 1) m' σ' H') ∧ ∀ x H', J.yld i H x H' → tG c g x σ H' fun σ2 H2 => tS c W body { D with nx := N, ct := N, bk := D.nx } σ2 H2) := by
  refine ⟨fun i m σ H => m = items.length - i ∧ i ≤ items.length ∧ ∃ ι β mh σm, Rel c ι β H mh ∧ RepL c.K ι β H σm σ ∧ inv ι β H ∧ PostS c ι β H D W (forGo chk g body (items.drop i) σm mh),
    ⟨items.length, by simp, Nat.zero_le _, ι, β, mh, σm, rel, rl, hi, by simpa using p⟩, ?_⟩
  rintro i m σ H ⟨rfl, hle, ι, β, mh, σm, rel, rl, hi, p⟩
  by_cases hlt : i < items.length
  · rw [List.drop_eq_getElem_cons hlt] at p
    unfold forGo at p
    split at p
    · rename_i hc
      obtain ⟨go, yl⟩ := S.go ι β H mh i items[i] rel hi hc (List.getElem?_eq_getElem hlt)
      refine .inr ⟨go, fun σ' H' => ∃ ι β mh σm, Rel c ι β H' mh ∧ RepL c.K ι β H' σm σ' ∧ inv ι β H' ∧ PostS c ι β H' D W (forGo chk g body (items.drop (i + 1)) σm mh), fun σ' H' hN => ⟨items.length - (i + 1), by omega, rfl, hlt, hN⟩, fun x H' hy => ?_⟩
      obtain ⟨f1, rel1, rx⟩ := yl x H' hy
      refine ⟨ι, β, mh, σm, items[i], rel1, rl.mono f1, rx, ?_⟩
      cases e : g items[i] σm mh with
      | ok σ1 h1 =>
        simp only [e] at p
        intro ι2 H2 σ2 f2 rel2 rl2
        refine ⟨ι2, β, h1, σ1, rel2, rl2, ?_⟩
        have f12 := f1.trans f2
        cases e2 : body σ1 h1 with
        | nx σ3 h3 => simp only [e2] at p; exact fun ι3 H3 σ' f3 rel3 rl3 => ⟨ι3, β, h3, σ3, rel3, rl3, S.mono _ _ _ _ _ (f12.trans f3) hi, PostS.fr (f12.trans f3) p⟩
        | ct σ3 h3 => simp only [e2] at p; exact fun ι3 H3 σ' f3 rel3 rl3 => ⟨ι3, β, h3, σ3, rel3, rl3, S.mono _ _ _ _ _ (f12.trans f3) hi, PostS.fr (f12.trans f3) p⟩
        | bk σ3 h3 => simp only [e2] at p; exact fun ι3 H3 σ' f3 rel3 rl3 => p ι3 H3 σ' (f12.trans f3) rel3 rl3
        | rt v h3 => simp only [e2] at p; exact fun ι3 H3 u f3 rel3 rl3 => p ι3 H3 u (f12.trans f3) rel3 rl3
        | ex x σ3 h3 => simp only [e2] at p; exact fun ι3 H3 cls d σ' f3 rel3 rl3 rx => p ι3 H3 cls d σ' (f12.trans f3) rel3 rl3 rx
        | bad => simp only [e2] at p; exact p
      | ex a b => simp only [e] at p; exact p
      | bad => simp only [e] at p; exact p
    · exact p.elim
  · have e : i = items.length := by omega
    subst e
    rw [List.drop_length] at p
    unfold forGo at p
    split at p
    · rename_i hc
      exact .inl ⟨S.stop ι β H mh rel hi hc, p ι H σ .refl rel rl⟩
    · exact p.elim

/-! what is walked -/
def itL (v : MV) (h : MH) : Option (List MV × (MH → Bool)) := match v with
  | .lv l => some (l, fun _ => true)
  | .fz l => some (l, fun _ => true)
  | .ref n => match h[n]? with
    | some (.lst l) => some (l, fun h' => match h'[n]? with
      | some (.lst l') => beqVs l' l
      | _ => false)
    | _ => none
  | _ => none
section
variable {c : C}
theorem src_list {v : MV} {h : MH} {l : List MV} {chk : MH → Bool} {ι β : List Addr} {H : Hp} {x : V} (e : itL v h = some (l, chk)) (rel : Rel c ι β H h) (rv : RepV c.K ι β H v x) :
    ∃ a, x = .ref a ∧ (∃ xs, SqL c.K H a xs) ∧ ∃ inv, Src c (Itl c.K a) l chk inv ∧ inv ι β H := by
  cases v with
  | lv l' =>
    simp only [itL, Option.some.injEq, Prod.mk.injEq] at e
    obtain ⟨rfl, rfl⟩ := e
    unfold RepV at rv
    obtain ⟨a, vs, rfl, ⟨q, na, nb⟩, r⟩ := rv
    refine ⟨a, rfl, ⟨vs, .inl (.inl q)⟩, fun ι β H => H a = some (.lst vs) ∧ a ∉ ι ∧ a ∉ β ∧ RepVs c.K ι β H l' vs, ⟨?_, ?_, ?_, ?_, ?_⟩, q, na, nb, r⟩
    · rintro ι β H ι' H' f ⟨q, na, nb, r⟩
      obtain ⟨o, e, w⟩ := f.keep a _ q na
      exact ⟨by rw [e, w.lst], f.out q na, nb, r.mono f⟩
    · rintro ι β H mh i m rel ⟨q, na, nb, r⟩ _ hm
      obtain ⟨v, ev, rv⟩ := r.get hm
      refine ⟨⟨vs, v, .inl (.inl q), ev⟩, fun x H' hy => ?_⟩
      obtain ⟨rfl, hy⟩ := hy
      have := hy vs (.inl (.inl q))
      rw [ev] at this; cases this
      exact ⟨.refl, rel, rv⟩
    · rintro ι β H mh rel ⟨q, na, nb, r⟩ _
      exact ⟨vs, .inl (.inl q), by rw [← r.length]; exact Nat.le_refl _⟩
    · rintro ι β H D o ⟨q, na, nb, r⟩ hD
      exact ⟨by rw [upd_ne (ne_of_none q hD)]; exact q, na, fun z => (List.mem_cons.mp z).elim (ne_of_none q hD) nb, r.move (Mov.ban hD)⟩
    · rintro ι β H D o ⟨q, na, nb, r⟩
      exact ⟨by rw [upd_ne (fun z => nb (by rw [z]; exact List.mem_cons_self))]; exact q, na, nb, r.move Mov.turn⟩
  | fz l' =>
    simp only [itL, Option.some.injEq, Prod.mk.injEq] at e
    obtain ⟨rfl, rfl⟩ := e
    unfold RepV at rv
    obtain ⟨a, vs, rfl, q, r⟩ := rv
    have sq : ∀ (ι β : List Addr) (H : Hp), ((∃ o, H a = some (.frz o (.lst vs))) ∧ a ∉ ι ∧ a ∉ β ∨ KL c.K a vs) → SqL c.K H a vs := fun ι β H q => by
      rcases q with ⟨⟨o, q⟩, _⟩ | q
      · exact .inl (.inr ⟨o, q⟩)
      · exact .inr q
    refine ⟨a, rfl, ⟨vs, sq _ _ _ q⟩, fun ι β H => ((∃ o, H a = some (.frz o (.lst vs))) ∧ a ∉ ι ∧ a ∉ β ∨ KL c.K a vs) ∧ RepVs c.K ι β H l' vs, ⟨?_, ?_, ?_, ?_, ?_⟩, q, r⟩
    · rintro ι β H ι' H' f ⟨q, r⟩
      refine ⟨?_, r.mono f⟩
      rcases q with ⟨⟨o, q⟩, na, nb⟩ | q
      · exact .inl ⟨⟨o, f.frz _ _ _ q⟩, f.out q na, nb⟩
      · exact .inr q
    · rintro ι β H mh i m rel ⟨q, r⟩ _ hm
      obtain ⟨v, ev, rv⟩ := r.get hm
      refine ⟨⟨vs, v, sq _ _ _ q, ev⟩, fun x H' hy => ?_⟩
      obtain ⟨rfl, hy⟩ := hy
      have := hy vs (sq _ _ _ q)
      rw [ev] at this; cases this
      exact ⟨.refl, rel, rv⟩
    · rintro ι β H mh rel ⟨q, r⟩ _
      exact ⟨vs, sq _ _ _ q, by rw [← r.length]; exact Nat.le_refl _⟩
    · rintro ι β H D o ⟨q, r⟩ hD
      refine ⟨?_, r.move (Mov.ban hD)⟩
      rcases q with ⟨⟨o', q⟩, na, nb⟩ | q
      · exact .inl ⟨⟨o', by rw [upd_ne (ne_of_none q hD)]; exact q⟩, na, fun z => (List.mem_cons.mp z).elim (ne_of_none q hD) nb⟩
      · exact .inr q
    · rintro ι β H D o ⟨q, r⟩
      refine ⟨?_, r.move Mov.turn⟩
      rcases q with ⟨⟨o', q⟩, na, nb⟩ | q
      · exact .inl ⟨⟨o', by rw [upd_ne (fun z => nb (by rw [z]; exact List.mem_cons_self))]; exact q⟩, na, nb⟩
      · exact .inr q
  | ref n =>
    unfold itL at e
    simp only at e
    cases eo : h[n]? with
    | none => simp only [eo] at e; cases e
    | some o =>
      cases o with
      | lst l' =>
        simp only [eo, Option.some.injEq, Prod.mk.injEq] at e
        obtain ⟨rfl, rfl⟩ := e
        unfold RepV at rv
        obtain ⟨a, rfl, ea⟩ := rv
        have key : ∀ ι β H mh, Rel c ι β H mh → ι[n]? = some a → (match mh[n]? with | some (.lst l2) => beqVs l2 l' | _ => false) = true → ∃ vs, H a = some (.lst vs) ∧ RepVs c.K ι β H l' vs := by
          intro ι β H mh rel ea hc
          obtain ⟨o, e1, ro⟩ := rel.at ea
          rw [e1] at hc
          cases o with
          | lst l2 =>
            have := beqVs_eq hc
            subst this
            exact ro
          | dct _ => cases hc
          | fdc _ => cases hc
          | ins _ _ => cases hc
        refine ⟨a, rfl, ?_, fun ι β H => ι[n]? = some a, ⟨?_, ?_, ?_, fun _ _ _ _ _ z _ => z, fun _ _ _ _ _ z => z⟩, ea⟩
        · obtain ⟨vs, q, _⟩ := key ι β H h rel ea (by rw [eo]; simp)
          exact ⟨vs, .inl (.inl q)⟩
        · intro ι β H ι' H' f q
          exact f.get q
        · intro ι β H mh i m rel ea hc hm
          obtain ⟨vs, q, r⟩ := key ι β H mh rel ea hc
          obtain ⟨v, ev, rv⟩ := r.get hm
          refine ⟨⟨vs, v, .inl (.inl q), ev⟩, fun x H' hy => ?_⟩
          obtain ⟨rfl, hy⟩ := hy
          have := hy vs (.inl (.inl q))
          rw [ev] at this; cases this
          exact ⟨.refl, rel, rv⟩
        · intro ι β H mh rel ea hc
          obtain ⟨vs, q, r⟩ := key ι β H mh rel ea hc
          exact ⟨vs, .inl (.inl q), by rw [← r.length]; exact Nat.le_refl _⟩
      | dct _ => simp only [eo] at e; cases e
      | fdc _ => simp only [eo] at e; cases e
      | ins _ _ => simp only [eo] at e; cases e
  | _ => cases e
theorem src_tup {l : List MV} {ι β : List Addr} {H : Hp} {x : V} (rv : RepV c.K ι β H (.tup l) x) :
    ∃ a, x = .ref a ∧ (∃ xs, SqT c.K H a xs) ∧ ∃ inv, Src c (Itt c.K a) l (fun _ => true) inv ∧ inv ι β H := by
  unfold RepV at rv
  obtain ⟨a, vs, rfl, q, r⟩ := rv
  have sq : ∀ (ι β : List Addr) (H : Hp), (H a = some (.tup vs) ∧ a ∉ ι ∧ a ∉ β ∨ KT c.K a vs) → SqT c.K H a vs := fun ι β H q => by
    rcases q with ⟨q, _⟩ | q
    · exact .inl (.inl q)
    · exact .inr q
  refine ⟨a, rfl, ⟨vs, sq _ _ _ q⟩, fun ι β H => (H a = some (.tup vs) ∧ a ∉ ι ∧ a ∉ β ∨ KT c.K a vs) ∧ RepVs c.K ι β H l vs, ⟨?_, ?_, ?_, ?_, ?_⟩, q, r⟩
  · rintro ι β H ι' H' f ⟨q, r⟩
    refine ⟨?_, r.mono f⟩
    rcases q with ⟨q, na, nb⟩ | q
    · obtain ⟨o, e, w⟩ := f.keep a _ q na
      exact .inl ⟨by rw [e, w.tup], f.out q na, nb⟩
    · exact .inr q
  · rintro ι β H mh i m rel ⟨q, r⟩ _ hm
    obtain ⟨v, ev, rv⟩ := r.get hm
    refine ⟨⟨vs, v, sq _ _ _ q, ev⟩, fun x H' hy => ?_⟩
    obtain ⟨rfl, hy⟩ := hy
    have := hy vs (sq _ _ _ q)
    rw [ev] at this; cases this
    exact ⟨.refl, rel, rv⟩
  · rintro ι β H mh rel ⟨q, r⟩ _
    exact ⟨vs, sq _ _ _ q, by rw [← r.length]; exact Nat.le_refl _⟩
  · rintro ι β H D o ⟨q, r⟩ hD
    refine ⟨?_, r.move (Mov.ban hD)⟩
    rcases q with ⟨q, na, nb⟩ | q
    · exact .inl ⟨by rw [upd_ne (ne_of_none q hD)]; exact q, na, fun z => (List.mem_cons.mp z).elim (ne_of_none q hD) nb⟩
    · exact .inr q
  · rintro ι β H D o ⟨q, r⟩
    refine ⟨?_, r.move Mov.turn⟩
    rcases q with ⟨q, na, nb⟩ | q
    · exact .inl ⟨by rw [upd_ne (fun z => nb (by rw [z]; exact List.mem_cons_self))]; exact q, na, nb⟩
    · exact .inr q
/-- a, a + c, .. (n of them) -/
def rgM (lo d : Int) (n : Nat) : List MV := (List.range n).map fun i => MV.int (lo + (i : Nat) * d)
theorem src_rangeC {lo d : Int} {n : Nat} : Src c (Itc lo d n) (rgM lo d n) (fun _ => true) (fun _ _ _ => True) := by
  refine ⟨fun _ _ _ _ _ _ _ => trivial, fun ι β H mh i m rel _ _ hm => ?_, fun ι β H mh rel _ _ => by show n ≤ _; simp [rgM], fun _ _ _ _ _ _ _ => trivial, fun _ _ _ _ _ _ => trivial⟩
  unfold rgM at hm
  rw [List.getElem?_map] at hm
  cases e : (List.range n)[i]? with
  | none => rw [e] at hm; cases hm
  | some j =>
    rw [e] at hm
    simp only [Option.map_some, Option.some.injEq] at hm
    subst hm
    obtain ⟨hj, ej⟩ := List.getElem?_eq_some_iff.mp e
    rw [List.length_range] at hj
    rw [List.getElem_range] at ej
    subst ej
    refine ⟨hj, fun x H' hy => ?_⟩
    obtain ⟨rfl, rfl⟩ := hy
    exact ⟨.refl, rel, rint _ _ _⟩
theorem src_range {lo : Int} {n : Nat} : Src c (Itr lo n) (rgM lo 1 n) (fun _ => true) (fun _ _ _ => True) := by
  refine ⟨fun _ _ _ _ _ _ _ => trivial, fun ι β H mh i m rel _ _ hm => ?_, fun ι β H mh rel _ _ => by show n ≤ _; simp [rgM], fun _ _ _ _ _ _ _ => trivial, fun _ _ _ _ _ _ => trivial⟩
  obtain ⟨go, yl⟩ := (src_rangeC (lo := lo) (d := 1) (n := n)).go ι β H mh i m rel trivial rfl hm
  refine ⟨go, fun x H' hy => yl x H' ?_⟩
  obtain ⟨rfl, rfl⟩ := hy
  exact ⟨rfl, by rw [Int.mul_one]⟩
end

/-! a walked expression, as a mirror term: items, check -/
abbrev IM := Lo → MH → R (List MV × (MH → Bool))
/-- the walk's start: as a reading -/
def tI (c : C) (W : WX) (r : IM) : TI := fun σ H R => ∃ ι β mh σm, Rel c ι β H mh ∧ RepL c.K ι β H σm σ ∧
  match r σm mh with
  | .ok (l, chk) h1 => ∀ ι' H' J inv, Fr ι H ι' H' → Rel c ι' β H' h1 → Src c J l chk inv → inv ι' β H' → R J H'
  | .ex e h1 => ∀ ι' H' cls d, Fr ι H ι' H' → Rel c ι' β H' h1 → RepX c ι' β H' e cls d → W cls d σ H'
  | .bad => False
section
variable {X : Cx} {c : C} {W : WX} {tg e : Expr} {re : EM} {rs : AM} {pos p : Pos}
theorem _root_.L2.PI.wk {iter : Expr} {w w' : TI} (h : PI X tg iter w) (q : ∀ σ H R, w' σ H R → w σ H R) : PI X tg iter w' := ⟨fun pins s σ H R I r => h.run pins s σ H R I (q σ H R r)⟩
@[simp] def iL (re : EM) : IM := fun σ h => bindR (re σ h) fun v h1 => match itL v h1 with
  | some r => .ok r h1
  | none => .bad
theorem runI {α δ : Type} {Rp : List Addr → List Addr → Hp → α → δ → Prop} {ra : Lo → MH → R α} {k : α → MH → R (List MV × (MH → Bool))} {σ : St} {H : Hp} {Q : It → Hp → Prop} (h : tI c W (fun σ h => bindR (ra σ h) k) σ H Q) :
    tR c W Rp ra σ H (fun b H1 => ∃ ι1 β mh1 σm a, Rel c ι1 β H1 mh1 ∧ RepL c.K ι1 β H1 σm σ ∧ Rp ι1 β H1 a b ∧ match k a mh1 with
      | .ok (l, chk) h1 => ∀ ι' H' J inv, Fr ι1 H1 ι' H' → Rel c ι' β H' h1 → Src c J l chk inv → inv ι' β H' → Q J H'
      | .ex e h1 => ∀ ι' H' cls d, Fr ι1 H1 ι' H' → Rel c ι' β H' h1 → RepX c ι' β H' e cls d → W cls d σ H'
      | .bad => False) := by
  obtain ⟨ι, β, mh, σm, rel, rl, p⟩ := h
  refine ⟨ι, β, mh, σm, rel, rl, ?_⟩
  dsimp only at p
  cases e : ra σm mh with
  | ok a h' =>
    rw [e] at p
    intro ι' H' b f r q
    refine ⟨ι', β, h', σm, a, r, rl.mono f, q, ?_⟩
    simp only [bindR] at p
    cases e2 : k a h' with
    | ok lc h1 =>
      obtain ⟨l, chk⟩ := lc
      simp only [e2] at p ⊢
      exact fun ι2 H2 J inv f2 => p ι2 H2 J inv (f.trans f2)
    | ex x h1 => simp only [e2] at p ⊢; exact fun ι2 H2 cls d f2 => p ι2 H2 cls d (f.trans f2)
    | bad => simp only [e2] at p
  | ex x h' => rw [e] at p; exact p
  | bad => rw [e] at p; exact p
theorem i_list (hK : X.K = c.K) (he : PE X e (tE c W re)) : PI X tg e (tI c W (iL re)) :=
  (pi_list he).wk fun σ H R h => by
    refine (runI (Rp := RV c) h).mono fun x H1 ⟨ι1, β, mh1, σm, v, rel, rl, rv, p⟩ => ?_
    cases ei : itL v mh1 with
    | none => simp only [ei] at p
    | some lc =>
      obtain ⟨l, chk⟩ := lc
      simp only [ei] at p
      obtain ⟨a, rfl, sq, inv, S, hi⟩ := src_list ei rel rv
      rw [hK]
      exact ⟨a, rfl, sq, p ι1 H1 _ inv .refl rel S hi⟩
@[simp] def itT (v : MV) (h : MH) : R (List MV × (MH → Bool)) := match v with
  | .tup l => .ok (l, fun _ => true) h
  | _ => .bad
@[simp] def iT (re : EM) : IM := fun σ h => bindR (re σ h) itT
theorem i_tup (hK : X.K = c.K) (he : PE X e (tE c W re)) : PI X tg e (tI c W (iT re)) :=
  (pi_tup he).wk fun σ H R h => by
    refine (runI (Rp := RV c) h).mono fun x H1 ⟨ι1, β, mh1, σm, v, rel, rl, rv, p⟩ => ?_
    cases v with
    | tup l =>
      obtain ⟨a, rfl, sq, inv, S, hi⟩ := src_tup rv
      rw [hK]
      exact ⟨a, rfl, sq, p ι1 H1 _ inv .refl rel S hi⟩
    | _ => exact p.elim
def B62 : Int := 4611686018427387904
def inB (i : Int) : Bool := decide (-B62 ≤ i) && decide (i < B62)
theorem inB_iff {i : Int} (h : inB i = true) : -(2 ^ 62) ≤ i ∧ i < 2 ^ 62 := by
  unfold inB at h
  simp only [Bool.and_eq_true, decide_eq_true_eq] at h
  exact h
@[simp] def itR1 (as : List MV) (h : MH) : R (List MV × (MH → Bool)) := match as with
  | [.int j] => if inB j = true then .ok (rgM 0 1 j.toNat, fun _ => true) h else .bad
  | _ => .bad
@[simp] def itR2 (as : List MV) (h : MH) : R (List MV × (MH → Bool)) := match as with
  | [.int i, .int j] => if (inB i && inB j) = true then .ok (rgM i 1 (j - i).toNat, fun _ => true) h else .bad
  | _ => .bad
/-- steps upward -/
@[simp] def itR3 (as : List MV) (h : MH) : R (List MV × (MH → Bool)) := match as with
  | [.int i, .int j, .int d] => if (inB i && inB j && decide (0 < d) && decide (d < 1000000)) = true then .ok (rgM i d (Builtin.Range.rangeSize i j d).toNat, fun _ => true) h else .bad
  | _ => .bad
theorem Vs1 {K : PySem.W.Frag} {ι β : List Addr} {H : Hp} {m : MV} {vs : List V} (h : RepVs K ι β H [m] vs) : ∃ v, vs = [v] ∧ RepV K ι β H m v := by
  obtain ⟨v, r, rfl, q, t⟩ := h.cons_iff
  rw [t.nil_iff]; exact ⟨v, rfl, q⟩
theorem Vs2 {K : PySem.W.Frag} {ι β : List Addr} {H : Hp} {m m' : MV} {vs : List V} (h : RepVs K ι β H [m, m'] vs) : ∃ v v', vs = [v, v'] ∧ RepV K ι β H m v ∧ RepV K ι β H m' v' := by
  obtain ⟨v, r, rfl, q, t⟩ := h.cons_iff
  obtain ⟨v', rfl, q'⟩ := Vs1 t
  exact ⟨v, v', rfl, q, q'⟩
theorem Vs3 {K : PySem.W.Frag} {ι β : List Addr} {H : Hp} {m m' m2 : MV} {vs : List V} (h : RepVs K ι β H [m, m', m2] vs) : ∃ v v' v2, vs = [v, v', v2] ∧ RepV K ι β H m v ∧ RepV K ι β H m' v' ∧ RepV K ι β H m2 v2 := by
  obtain ⟨v, r, rfl, q, t⟩ := h.cons_iff
  obtain ⟨v', v2, rfl, q', q2⟩ := Vs2 t
  exact ⟨v, v', v2, rfl, q, q', q2⟩
theorem ri {K : PySem.W.Frag} {ι β : List Addr} {H : Hp} {i : Int} {v : V} (h : RepV K ι β H (.int i) v) : v = .int i := by unfold RepV at h; exact h
theorem itR1_ok {as : List MV} {h h1 : MH} {r : List MV × (MH → Bool)} (e : itR1 as h = .ok r h1) : ∃ j, as = [.int j] ∧ inB j = true ∧ r = (rgM 0 1 j.toNat, fun _ => true) ∧ h1 = h := by
  unfold itR1 at e
  split at e
  · split at e
    · cases e; exact ⟨_, rfl, by assumption, rfl, rfl⟩
    · cases e
  · cases e
theorem itR1_nex {as : List MV} {h h1 : MH} {x : MX} : itR1 as h ≠ .ex x h1 := fun e => by
  unfold itR1 at e
  split at e
  · split at e <;> cases e
  · cases e
theorem itR2_ok {as : List MV} {h h1 : MH} {r : List MV × (MH → Bool)} (e : itR2 as h = .ok r h1) : ∃ i j, as = [.int i, .int j] ∧ inB i = true ∧ inB j = true ∧ r = (rgM i 1 (j - i).toNat, fun _ => true) ∧ h1 = h := by
  unfold itR2 at e
  split at e
  · split at e
    · rename_i hb
      rw [Bool.and_eq_true] at hb
      cases e; exact ⟨_, _, rfl, hb.1, hb.2, rfl, rfl⟩
    · cases e
  · cases e
theorem itR2_nex {as : List MV} {h h1 : MH} {x : MX} : itR2 as h ≠ .ex x h1 := fun e => by
  unfold itR2 at e
  split at e
  · split at e <;> cases e
  · cases e
theorem itR3_ok {as : List MV} {h h1 : MH} {r : List MV × (MH → Bool)} (e : itR3 as h = .ok r h1) : ∃ i j d, as = [.int i, .int j, .int d] ∧ inB i = true ∧ inB j = true ∧ 0 < d ∧ d < 1000000 ∧ r = (rgM i d (Builtin.Range.rangeSize i j d).toNat, fun _ => true) ∧ h1 = h := by
  unfold itR3 at e
  split at e
  · split at e
    · rename_i hb
      simp only [Bool.and_eq_true, decide_eq_true_eq] at hb
      cases e; exact ⟨_, _, _, rfl, hb.1.1.1, hb.1.1.2, hb.1.2, hb.2, rfl, rfl⟩
    · cases e
  · cases e
theorem itR3_nex {as : List MV} {h h1 : MH} {x : MX} : itR3 as h ≠ .ex x h1 := fun e => by
  unfold itR3 at e
  split at e
  · split at e <;> cases e
  · cases e
theorem i_range1 {a : Expr} (hg : Gl X "range") (hm : X.mg "range" = none) (ha : PA X [a] (tA c W rs)) (hs : starEach [a] X.env = [(false, eval a X.env)] := by rfl) : PI X tg (.Call (.Name "range" p) [a] [] pos) (tI c W (fun σ h => bindR (rs σ h) itR1)) :=
  (pi_range1 hg hm ha hs).wk fun σ H R h => by
    refine (runI (Rp := RVs c) h).mono fun xs H1 ⟨ι1, β, mh1, σm, as, rel, rl, rv, p⟩ => ?_
    cases e : itR1 as mh1 with
    | ok r h1 =>
      obtain ⟨j, rfl, hb, rfl, rfl⟩ := itR1_ok e
      simp only [e] at p
      obtain ⟨v, rfl, q⟩ := Vs1 rv
      obtain ⟨h1, h2⟩ := inB_iff hb
      exact ⟨j, by rw [ri q], h1, h2, p ι1 H1 _ _ .refl rel src_range trivial⟩
    | ex x h1 => exact absurd e itR1_nex
    | bad => simp only [e] at p
theorem i_range2 {a b : Expr} (hg : Gl X "range") (hm : X.mg "range" = none) (ha : PA X [a, b] (tA c W rs)) (hs : starEach [a, b] X.env = [(false, eval a X.env), (false, eval b X.env)] := by rfl) (hs2 : starEach [b] X.env = [(false, eval b X.env)] := by rfl) : PI X tg (.Call (.Name "range" p) [a, b] [] pos) (tI c W (fun σ h => bindR (rs σ h) itR2)) :=
  (pi_range2 hg hm ha hs hs2).wk fun σ H R h => by
    refine (runI (Rp := RVs c) h).mono fun xs H1 ⟨ι1, β, mh1, σm, as, rel, rl, rv, p⟩ => ?_
    cases e : itR2 as mh1 with
    | ok r h1 =>
      obtain ⟨i, j, rfl, hb, hb', rfl, rfl⟩ := itR2_ok e
      simp only [e] at p
      obtain ⟨v, v', rfl, q, q'⟩ := Vs2 rv
      obtain ⟨h1, h2⟩ := inB_iff hb
      obtain ⟨h3, h4⟩ := inB_iff hb'
      exact ⟨i, j, by rw [ri q, ri q'], ⟨h1, h2, h3, h4⟩, p ι1 H1 _ _ .refl rel src_range trivial⟩
    | ex x h1 => exact absurd e itR2_nex
    | bad => simp only [e] at p
theorem rgC_of {i j d : Int} (h1 : -(2 ^ 62) ≤ i ∧ i < 2 ^ 62) (h2 : -(2 ^ 62) ≤ j ∧ j < 2 ^ 62) (hd : 0 < d) (hd' : d < 1000000) : RgC i j d (Builtin.Range.rangeSize i j d).toNat := by
  have e : Builtin.Range.rangeSize i j d = if i < j then (j - i - 1) / d + 1 else 0 := by
    unfold Builtin.Range.rangeSize
    rw [if_pos hd]
  have q0 : i < j → 0 ≤ (j - i - 1) / d := fun h => Int.ediv_nonneg (by omega) (by omega)
  have q1 : i < j → (j - i - 1) / d ≤ j - i - 1 := fun h => Int.ediv_le_self _ (by omega)
  have q2 : i < j → (j - i - 1) / d * d ≤ j - i - 1 := fun h => Int.ediv_mul_le _ (by omega)
  refine ⟨by omega, by omega, ?_, ?_⟩
  · unfold Builtin.Range.small
    rw [e]
    simp only [Builtin.Range.rangeFitsLong, Bool.and_eq_true, Bool.or_eq_true, decide_eq_true_eq, beq_iff_eq, gt_iff_lt, hd, if_true]
    split
    · rename_i h
      have a0 := q0 h
      have a1 := q1 h
      have a2 := q2 h
      have a3 : i + ((j - i - 1) / d + 1) * d ≤ j + d := by
        rw [Int.add_mul]; omega
      have a4 : i ≤ i + ((j - i - 1) / d + 1) * d := by
        have : 0 ≤ ((j - i - 1) / d + 1) * d := Int.mul_nonneg (by omega) (by omega)
        omega
      omega
    · omega
  · rw [e]
    split
    · rename_i h
      have a0 := q0 h
      omega
    · omega
theorem i_range3 {a b d : Expr} (hg : Gl X "range") (hm : X.mg "range" = none) (ha : PA X [a, b, d] (tA c W rs)) (hs : starEach [a, b, d] X.env = (false, eval a X.env) :: starEach [b, d] X.env := by rfl) (hpl : (backTo pos (starEach [b, d] X.env)).any (·.1) = false := by rfl) : PI X tg (.Call (.Name "range" p) [a, b, d] [] pos) (tI c W (fun σ h => bindR (rs σ h) itR3)) :=
  (pi_range3 hg hm ha hs hpl).wk fun σ H R h => by
    refine (runI (Rp := RVs c) h).mono fun xs H1 ⟨ι1, β, mh1, σm, as, rel, rl, rv, p⟩ => ?_
    cases e : itR3 as mh1 with
    | ok r h1 =>
      obtain ⟨i, j, d, rfl, hb, hb', hd, hd', rfl, rfl⟩ := itR3_ok e
      simp only [e] at p
      obtain ⟨v, v', v2, rfl, q, q', q2⟩ := Vs3 rv
      exact ⟨i, j, d, _, by rw [ri q, ri q', ri q2], rgC_of (inB_iff hb) (inB_iff hb') hd hd', p ι1 H1 _ _ .refl rel src_rangeC trivial⟩
    | ex x h1 => exact absurd e itR3_nex
    | bad => simp only [e] at p
/-! the loop itself -/
@[simp] def sFor (r : IM) (g : GM) (body : SM) : SM := fun σ h => bindS (r σ h) σ fun lc h1 => forGo lc.2 g body lc.1 σ h1
theorem s_for {iter : Expr} {body : List Stmt} {r : IM} {g : GM} {rb : SM} (hp : PassesOwn (model X.prog X.w) X.A X.env X.xe) (hc : X.calm = true) (hi : PI X tg iter (tI c W r)) (hg : PG X tg (tG c g)) (hb : PSs X body (tS c W rb))
    (hs : ∀ x, foldedSetIterable iter X.env x = pure x := by intro _; rfl) : PS X (.For tg iter body [] pos) (tS c W (sFor r g rb)) :=
  (ps_for hp hc hi hg hb hs).wk fun D σ H ⟨ι, β, mh, σm, rel, rl, p⟩ => by
    refine ⟨ι, β, mh, σm, rel, rl, ?_⟩
    unfold sFor at p
    cases e : r σm mh with
    | ok lc h1 =>
      obtain ⟨l, chk⟩ := lc
      simp only [e, bindS] at p
      exact fun ι' H' J inv f rel' S hi => for_of S rel' (rl.mono f) hi (PostS.fr f p)
    | ex x h1 => simp only [e, bindS] at p; exact fun ι' H' cls d f rel' rx => p ι' H' cls d σ f rel' (rl.mono f) rx
    | bad => simp only [e, bindS] at p; exact p
end
end MP

/-! Mirror layer, part 5: list comprehensions. -/
namespace MP
open PySem PySem.Spec PyProof.Rows L2

/-- what a comprehension's turn is bound to -/
inductive TP where
  | nm (i : Nat)
  | tp (l : List TP)
mutual
def asP : TP → MV → Lo → Option Lo
  | .nm i, m, σ => some (σ.set i (some m))
  | .tp l, m, σ => match m with
    | .tup ms => asPs l ms σ
    | _ => none
def asPs : List TP → List MV → Lo → Option Lo
  | [], [], σ => some σ
  | p :: l, m :: ms, σ => match asP p m σ with
    | some σ1 => asPs l ms σ1
    | none => none
  | _, _, _ => none
end
/-- a target's reading does what the pattern says -/
def RdOk (c : C) (vs : List Nat) (g : TG) (p : TP) : Prop := ∀ ι β H mh m v σm σ σm1 (Q : St → Hp → Prop), Rel c ι β H mh → RepL c.K ι β H σm σ → RepV c.K ι β H m v → asP p m σm = some σm1 →
  (∀ σ', RepL c.K ι β H σm1 σ' → wipe σ' vs = wipe σ vs → Q σ' H) → g v σ H Q
def RdsOk (c : C) (vs : List Nat) (g : TGs) (p : List TP) : Prop := ∀ ι β H mh ms us σm σ σm1 (Q : St → Hp → Prop), Rel c ι β H mh → RepL c.K ι β H σm σ → RepVs c.K ι β H ms us → asPs p ms σm = some σm1 →
  (∀ σ', RepL c.K ι β H σm1 σ' → wipe σ' vs = wipe σ vs → Q σ' H) → g us σ H Q
theorem wipe_set {σ : St} {i : Nat} {v : Option V} : ∀ {vs : List Nat}, i ∈ vs → wipe (σ.set i v) vs = wipe σ vs
  | [], h => by simp at h
  | j :: vs, h => by
    unfold wipe
    by_cases e : j = i
    · subst e
      by_cases h2 : j ∈ vs
      · rw [wipe_set h2]
      · have key : ∀ (ws : List Nat) (τ : St), (wipe (τ.set j v) ws).set j none = (wipe τ ws).set j none := by
          intro ws
          induction ws with
          | nil => intro τ; show (τ.set j v).set j none = τ.set j none; rw [List.set_set]
          | cons k ws ih =>
            intro τ
            unfold wipe
            by_cases e : k = j
            · subst e; rw [ih]
            · rw [List.set_comm _ _ e, ih, List.set_comm _ _ (Ne.symm e)]
        exact key vs σ
    · rcases List.mem_cons.mp h with h2 | h2
      · exact absurd h2.symm e
      · rw [wipe_set h2]
section
variable {c : C} {vs : List Nat}
theorem rd_name {i : Nat} (h : i ∈ vs) : RdOk c vs (gName i) (.nm i) := fun ι β H mh m v σm σ σm1 Q rel rl rv e q => by
  unfold asP at e
  cases e
  exact q _ (rl.set rv) (wipe_set h)
theorem rds_nil : RdsOk c vs gNil [] := fun ι β H mh ms us σm σ σm1 Q rel rl rv e q => by
  cases ms with
  | nil =>
    unfold asPs at e
    cases e
    exact ⟨rv.nil_iff, q σ rl rfl⟩
  | cons a l => unfold asPs at e; cases e
theorem rds_cons {g : TG} {gs : TGs} {p : TP} {ps : List TP} (h1 : RdOk c vs g p) (h2 : RdsOk c vs gs ps) : RdsOk c vs (gCons g gs) (p :: ps) := fun ι β H mh ms us σm σ σm1 Q rel rl rv e q => by
  cases ms with
  | nil => unfold asPs at e; cases e
  | cons m ms =>
    obtain ⟨u, r, rfl, q1, t⟩ := rv.cons_iff
    unfold asPs at e
    cases e1 : asP p m σm with
    | none => simp [e1] at e
    | some σ1 =>
      simp only [e1] at e
      exact ⟨u, r, rfl, h1 _ _ _ _ _ _ _ _ _ _ rel rl q1 e1 fun σ' rl' w1 => h2 _ _ _ _ _ _ _ _ _ _ rel rl' t e fun σ2 rl2 w2 => q σ2 rl2 (w2.trans w1)⟩
theorem asPs_len : ∀ {ps : List TP} {ms : List MV} {σ σ1 : Lo}, asPs ps ms σ = some σ1 → ms.length = ps.length
  | [], [], _, _, _ => rfl
  | [], _ :: _, _, _, e => by unfold asPs at e; cases e
  | _ :: _, [], _, _, e => by unfold asPs at e; cases e
  | p :: ps, m :: ms, σ, _, e => by
    unfold asPs at e
    cases e1 : asP p m σ with
    | none => simp [e1] at e
    | some σ1 => simp only [e1] at e; simp [asPs_len e]
theorem rd_tup {K : PySem.W.Frag} {gs : TGs} {ps : List TP} {n : Nat} (hK : K = c.K) (hn : n = ps.length) (h : RdsOk c vs gs ps) : RdOk c vs (gTup K n gs) (.tp ps) := fun ι β H mh m v σm σ σm1 Q rel rl rv e q => by
  unfold asP at e
  cases m with
  | tup ms =>
    simp only at e
    obtain ⟨a, us, rfl, sq, r⟩ := rv.tup_iff
    exact ⟨a, us, rfl, by rw [hK]; exact sq, by rw [← r.length, asPs_len e, hn], h _ _ _ _ _ _ _ _ _ _ rel rl r e q⟩
  | _ => cases e
end
def gmP (p : TP) : GM := fun m σ h => match asP p m σ with
  | some σ1 => .ok σ1 h
  | none => .bad

/-! ### the comprehension's loop -/
def lcGo (chk : MH → Bool) (p : TP) (t : TM) (e : EM) : List MV → Lo → MH → R (List MV)
  | [], _, h => if chk h = true then .ok [] h else .bad
  | x :: xs, σ, h => if chk h = true then match asP p x σ with
      | none => .bad
      | some σ1 => match t σ1 h with
        | .ok k h1 => if k = true then match e σ1 h1 with
            | .ok v h2 => match lcGo chk p t e xs σ h2 with
              | .ok r h3 => .ok (v :: r) h3
              | _ => .bad
            | _ => .bad
          else lcGo chk p t e xs σ h1
        | _ => .bad
    else .bad
def clrL (vs : List Nat) (σ : Lo) : Lo := vs.foldr (fun i l => l.set i none) σ
theorem Fr.updN {ι ι' : List Addr} {H H' : Hp} {D : Addr} {o : HO} (f : Fr ι H ι' H') (h : H D = none) : Fr ι H ι' (upd H' D o) :=
  ⟨f.pre, fun a u e n => by
    obtain ⟨o', e', w⟩ := f.keep a u e n
    exact ⟨o', by rw [upd_ne (ne_of_none e h)]; exact e', w⟩, f.news, fun a od u e => by rw [upd_ne (ne_of_none e h)]; exact f.frz a od u e⟩
abbrev W0 : WX := fun _ _ _ _ => False
/-- what is wanted of the list's end -/
def PostC (c : C) (ι1 β : List Addr) (H1 : Hp) (D : Addr) (accm : List MV) (Q : Hp → Prop) : R (List MV) → Prop
  | .ok r h' => ∀ ι' H' vs', Fr ι1 H1 ι' H' → Rel c ι' (D :: β) H' h' → H' D = some (.lst vs') → RepVs c.K ι' (D :: β) H' (accm ++ r) vs' → Q H'
  | _ => False
theorem lc_of {c : C} {J : It} {items : List MV} {chk : MH → Bool} {inv : List Addr → List Addr → Hp → Prop} {ι1 β : List Addr} {H1 : Hp} {mh : MH} {σm : Lo} {σ : St} {p : TP} {t : TM} {e : EM} {g : TG} {vs : List Nat} {D : Addr} {Q : Hp → Prop}
    (S : Src c J items chk inv)
    (rd : RdOk c vs g p) (hl : items.length ≤ SZ) (rel : Rel c ι1 β H1 mh) (rl : RepL c.K ι1 β H1 σm σ) (hi : inv ι1 β H1) (hD : H1 D = none)
    (q : PostC c ι1 β H1 D [] Q (lcGo chk p t e items (clrL vs σm) mh)) :
    ∃ W : Nat → Nat → Hp → Prop, (∃ m, W 0 m (upd H1 D (.lst []))) ∧ ∀ i m H, W i m H →
      (J.stop i H ∧ Q H) ∨ (J.go i H ∧ ∃ Nx : Hp → Prop, (∀ H', Nx H' → ∃ m', m' < m ∧ W (i + 1) m' H') ∧ ∀ x H', J.yld i H x H' → g x (wipe σ vs) H' fun σ2 H2 => wipe σ2 vs = wipe σ vs ∧ tT c W0 t σ2 H2 fun b H3 =>
        if b = true then tE c W0 e σ2 H3 fun y H4 => ∃ acc, H4 D = some (.lst acc) ∧ acc.length < sizeLine ∧ Nx (upd H4 D (.lst (acc ++ [y]))) else Nx H3) := by
  have nf : ∀ (l : List V) od u, HO.lst l ≠ .frz od u := fun l od u z => by cases z
  refine ⟨fun i m H => m = items.length - i ∧ i ≤ items.length ∧ ∃ ι mh accm accv, Rel c ι (D :: β) H mh ∧ RepL c.K ι (D :: β) H (clrL vs σm) (wipe σ vs) ∧ inv ι (D :: β) H ∧ Fr ι1 H1 ι H ∧ H D = some (.lst accv) ∧ RepVs c.K ι (D :: β) H accm accv ∧ accv.length ≤ i ∧
      PostC c ι1 β H1 D accm Q (lcGo chk p t e (items.drop i) (clrL vs σm) mh),
    ⟨items.length, by simp, Nat.zero_le _, ι1, mh, [], [], rel.ban' hD (nf _), (rl.clear vs).move (Mov.ban hD), S.ban _ _ _ _ _ hi hD, ?_, upd_same, .nil, Nat.zero_le _, by simpa using q⟩, ?_⟩
  · exact Fr.updN .refl hD
  · rintro i m H ⟨rfl, hle, ι, mh, accm, accv, rel, rl, hi, fr, hDl, ra, hal, q⟩
    by_cases hlt : i < items.length
    · rw [List.drop_eq_getElem_cons hlt] at q
      unfold lcGo at q
      split at q
      · rename_i hc
        obtain ⟨go, yl⟩ := S.go ι (D :: β) H mh i items[i] rel hi hc (List.getElem?_eq_getElem hlt)
        refine .inr ⟨go, fun H' => ∃ ι mh accm accv, Rel c ι (D :: β) H' mh ∧ RepL c.K ι (D :: β) H' (clrL vs σm) (wipe σ vs) ∧ inv ι (D :: β) H' ∧ Fr ι1 H1 ι H' ∧ H' D = some (.lst accv) ∧ RepVs c.K ι (D :: β) H' accm accv ∧ accv.length ≤ i + 1 ∧
          PostC c ι1 β H1 D accm Q (lcGo chk p t e (items.drop (i + 1)) (clrL vs σm) mh), fun H' hN => ⟨items.length - (i + 1), by omega, rfl, hlt, hN⟩, fun x H' hy => ?_⟩
        obtain ⟨f1, rel1, rx⟩ := yl x H' hy
        have ww : wipe (wipe σ vs) vs = wipe σ vs := by
          have gen : ∀ (ws : List Nat) (τ : St), (∀ j ∈ ws, ∀ v, τ[j]? = some v → v = none) → wipe τ ws = τ := by
            intro ws
            induction ws with
            | nil => intro τ _; rfl
            | cons k ws ih =>
              intro τ h
              unfold wipe
              rw [ih τ fun j hj => h j (List.mem_cons_of_mem _ hj)]
              apply List.ext_getElem?
              intro j
              rw [List.getElem?_set]
              split
              · rename_i e
                subst e
                split
                · rename_i hk
                  cases e2 : τ[k]? with
                  | none => rw [List.getElem?_eq_getElem hk] at e2; cases e2
                  | some v => rw [h k List.mem_cons_self v e2]
                · rename_i hk
                  rw [List.getElem?_eq_none (by omega)]
              · rfl
          refine gen vs _ fun j hj v hv => ?_
          cases v with
          | none => rfl
          | some z => exact absurd hj (wipe_some hv).2
        cases ea : asP p items[i] (clrL vs σm) with
        | none => simp only [ea] at q; exact q.elim
        | some σ1 =>
          simp only [ea] at q
          refine rd ι (D :: β) H' mh items[i] x _ _ σ1 _ rel1 (rl.mono f1) rx ea fun σ' rl' hw => ⟨hw.trans ww, ?_⟩
          have frH' := fr.trans f1
          refine ⟨ι, D :: β, mh, σ1, rel1, rl', ?_⟩
          have hDk : ∀ {ι' : List Addr} {H2 : Hp}, Fr ι H' ι' H2 → H2 D = some (.lst accv) := fun {ι' H2} f2 => by
            obtain ⟨_, _, nD, _⟩ := rel.ban D List.mem_cons_self
            obtain ⟨o1, e1, w1⟩ := f1.keep D _ hDl nD
            obtain ⟨o2, e2, w2⟩ := f2.keep D _ e1 nD
            rw [e2, w1.lst] at *
            rw [w2.lst]
          cases et : t σ1 mh with
          | ok k h1 =>
            simp only [et] at q
            intro ι2 H2 b f2 rel2 hb
            obtain rfl : k = b := hb
            cases k with
            | true =>
              rw [if_pos rfl] at q ⊢
              refine ⟨ι2, D :: β, h1, σ1, rel2, rl'.mono f2, ?_⟩
              cases ee : e σ1 h1 with
              | ok v h2 =>
                simp only [ee] at q
                intro ι3 H3 y f3 rel3 ry
                have f23 := f2.trans f3
                have hD3 := hDk f23
                refine ⟨accv, hD3, by rw [sz_eq]; omega, ι3, h2, accm ++ [v], accv ++ [y], rel3.turn (nf _), ((rl.mono (f1.trans f23)).move Mov.turn), S.turn _ _ _ _ _ (S.mono _ _ _ _ _ (f1.trans f23) hi), Fr.updN (frH'.trans f23) hD, upd_same, ((ra.mono (f1.trans f23)).append (.cons ry .nil)).move Mov.turn, by simp; omega, ?_⟩
                cases er : lcGo chk p t e (items.drop (i + 1)) (clrL vs σm) h2 with
                | ok r h3 =>
                  simp only [er] at q
                  intro ι' H' vs' f rel' hD' rv'
                  exact q ι' H' vs' f rel' hD' (by simpa using rv')
                | ex a b => simp only [er] at q; exact q
                | bad => simp only [er] at q; exact q
              | ex a b => simp only [ee] at q; exact q.elim
              | bad => simp only [ee] at q; exact q
            | false =>
              rw [if_neg Bool.false_ne_true] at q ⊢
              exact ⟨ι2, h1, accm, accv, rel2, rl.mono (f1.trans f2), S.mono _ _ _ _ _ (f1.trans f2) hi, frH'.trans f2, hDk f2, ra.mono (f1.trans f2), by omega, q⟩
          | ex a b => simp only [et] at q; exact q.elim
          | bad => simp only [et] at q; exact q
      · exact q.elim
    · have ei : i = items.length := by omega
      subst ei
      rw [List.drop_length] at q
      unfold lcGo at q
      split at q
      · rename_i hc
        exact .inl ⟨S.stop ι (D :: β) H mh rel hi hc, q ι H accv fr rel hDl (by simpa using ra)⟩
      · exact q.elim

/-! ### the comprehension as an expression -/
section
variable {X : Cx} {c : C} {W : WX}
/-- its list, unchanging or new -/
def mLc (r : IM) (p : TP) (t : TM) (e : EM) (vs : List Nat) (fin : List MV → MH → R MV) : EM := fun σ h => bindR (r σ h) fun lc h1 =>
  if lc.1.length ≤ SZ then match lcGo lc.2 p t e lc.1 (clrL vs σ) h1 with
    | .ok l h2 => fin l h2
    | _ => .bad
  else .bad
@[simp] def finV (l : List MV) (h : MH) : R MV := .ok (.lv l) h
@[simp] def finR (l : List MV) (h : MH) : R MV := .ok (.ref h.length) (h ++ [.lst l])
/-- how the list that was built is handed on -/
def FinOk (c : C) (fin : List MV → MH → R MV) : Prop := ∀ ι1 β H1 mh0 D ι' H' l vs' h' Q W, Rel c ι1 β H1 mh0 → H1 D = none → Fr ι1 H1 ι' H' → Rel c ι' (D :: β) H' h' → H' D = some (.lst vs') → RepVs c.K ι' (D :: β) H' l vs' → Post c ι1 β H1 (RV c) Q W (fin l h') → Q (.ref D) H'
theorem fin_V : FinOk c finV := fun ι1 β H1 mh0 D ι' H' l vs' h' Q W rel0 hD f rel hD' rv p => by
  obtain ⟨_, _, nD, _⟩ := rel.ban D List.mem_cons_self
  refine p ι' H' (.ref D) f rel.free ?_
  unfold RepV
  exact ⟨D, vs', rfl, ⟨hD', nD, nban rel0 hD⟩, rv.move Mov.free⟩
/-- a built thing is mapped -/
theorem Mov.own {ι β : List Addr} {H : Hp} {D : Addr} : Mov ι (D :: β) H (ι ++ [D]) β H :=
  ⟨fun a u e n nb => ⟨⟨u, e, .rfl'⟩, fun z => by
    rcases List.mem_append.mp z with z | z
    · exact n z
    · have : a = D := by simpa using z
      exact nb (by rw [this]; exact List.mem_cons_self), fun z => nb (List.mem_cons_of_mem _ z)⟩, fun n a h => by
    rw [List.getElem?_append_left (List.getElem?_eq_some_iff.mp h).1]; exact h⟩
theorem Rel.own {ι β : List Addr} {H : Hp} {D : Addr} {mh : MH} {mo : MO} (nb : D ∉ β) (r : Rel c ι (D :: β) H mh) (q : RepO c (ι ++ [D]) β H D mo) : Rel c (ι ++ [D]) β H (mh ++ [mo]) := by
  obtain ⟨_, _, nD, _⟩ := r.ban D List.mem_cons_self
  refine ⟨by simp [r.len], ?_, fun b hb => ?_, fun n u e => ?_⟩
  · refine List.nodup_append.mpr ⟨r.nd, by simp, fun a ha b hb => ?_⟩
    have : b = D := by simpa using hb
    subst this
    rintro rfl
    exact nD ha
  · obtain ⟨u, e, n, nf⟩ := r.ban b (List.mem_cons_of_mem _ hb)
    refine ⟨u, e, fun z => ?_, nf⟩
    rcases List.mem_append.mp z with z | z
    · exact n z
    · have : b = D := by simpa using z
      exact nb (by rw [← this]; exact hb)
  · by_cases hn : n < mh.length
    · rw [List.getElem?_append_left hn] at e
      obtain ⟨a, e1, q1⟩ := r.obj n u e
      refine ⟨a, ?_, q1.move Mov.own rfl⟩
      rw [List.getElem?_append_left (by rw [← r.len]; exact hn)]
      exact e1
    · rw [List.getElem?_append_right (by omega)] at e
      have hz : n - mh.length = 0 := by
        have := (List.getElem?_eq_some_iff.mp e).1
        simp at this
        exact this
      rw [hz] at e
      simp at e
      subst e
      refine ⟨D, ?_, q⟩
      rw [List.getElem?_append_right (by rw [← r.len]; omega), ← r.len, hz]
      rfl
theorem fin_R : FinOk c finR := fun ι1 β H1 mh0 D ι' H' l vs' h' Q W rel0 hD f rel hD' rv p => by
  have nb := nban rel0 hD
  obtain ⟨_, _, nD, _⟩ := rel.ban D List.mem_cons_self
  refine p (ι' ++ [D]) H' (.ref D) ⟨?_, f.keep, fun a z n => ?_, f.frz⟩ (rel.own nb ⟨vs', hD', rv.move Mov.own⟩) ?_
  · obtain ⟨t, rfl⟩ := f.pre
    exact ⟨t ++ [D], by simp⟩
  · rcases List.mem_append.mp z with z | z
    · exact f.news a z n
    · have : a = D := by simpa using z
      rw [this]; exact hD
  · unfold RepV
    refine ⟨D, rfl, ?_⟩
    rw [rel.len, List.getElem?_append_right (Nat.le_refl _)]
    simp
theorem mLc_of {r : IM} {p : TP} {t : TM} {e : EM} {vs : List Nat} {fin : List MV → MH → R MV} {g : TG} {σ : St} {H : Hp} {Q : VK} (fo : FinOk c fin) (rd : RdOk c vs g p) (h : tE c W (mLc r p t e vs fin) σ H Q) : tLc (tI c W r) g (tT c W0 t) (tE c W0 e) vs σ H Q := by
  obtain ⟨ι, β, mh, σm, rel, rl, q⟩ := h
  refine ⟨ι, β, mh, σm, rel, rl, ?_⟩
  unfold mLc at q
  cases er : r σm mh with
  | ok lc h1 =>
    obtain ⟨l, chk⟩ := lc
    simp only [er, bindR] at q
    intro ι' H' J inv f rel' S hi D hD
    split at q
    · rename_i hl
      refine lc_of S rd hl rel' (rl.mono f) hi hD ?_
      cases el : lcGo chk p t e l (clrL vs σm) h1 with
      | ok l2 h2 =>
        simp only [el] at q
        intro ι2 H2 vs' f2 rel2 hD2 rv2
        exact fo ι' β H' h1 D ι2 H2 l2 vs' h2 Q _ rel' hD f2 rel2 hD2 (by simpa using rv2) (Post.fr f q)
      | ex a b => simp only [el] at q; exact q.elim
      | bad => simp only [el] at q; exact q
    · exact q.elim
  | ex x h1 => simp only [er, bindR] at q; exact q
  | bad => simp only [er, bindR] at q; exact q
@[simp] def mYes : TM := fun _ h => .ok true h
theorem pts0 : PTs X [] (tT c W0 mYes) := ⟨fun pins s σ H Q I ⟨ι, β, mh, σm, rel, rl, p⟩ => pts_nil.run pins s σ H Q I (p ι H true .refl rel rfl)⟩
theorem pts1 {a : Expr} {t : TM} (h : PT X a (tT c W0 t)) : PTs X [a] (tT c W0 t) := pts_one h
theorem e_lc {elt tg iter : Expr} {ifs : List Expr} {scope : Scope} {own : List (Str × Nat)} {pos : Pos} {r : IM} {p : TP} {t : TM} {e : EM} {g : TG} (fin : List MV → MH → R MV) (fo : FinOk c fin) (hc : X.calm = true) (hN : X.N.Nodup) (hi : PI X tg iter (tI c W r)) (ok : BlkOk X.N X.env.scope scope own)
    (rd : RdOk c (own.map (·.2)) g p)
    (hg : ∀ (s : Shared) (H : Hp) (C : Addr) (cl : List (Str × Addr)) (fp : List Addr), PG (X.blk s H scope (compEnvC scope cl C X.env) fp) tg g) (ht : ∀ (s : Shared) (H : Hp) (C : Addr) (cl : List (Str × Addr)) (fp : List Addr), PTs (X.blk s H scope (compEnvC scope cl C X.env) fp) ifs (tT c W0 t))
    (he : ∀ (s : Shared) (H : Hp) (C : Addr) (cl : List (Str × Addr)) (fp : List Addr), PE (X.blk s H scope (compEnvC scope cl C X.env) fp) elt (tE c W0 e)) (hs : ∀ x, foldedSetIterable iter X.env x = pure x := by intro _; rfl) :
    PE X (.ListComp elt [⟨tg, iter, ifs, 0⟩] scope pos) (tE c W (mLc r p t e (own.map (·.2)) fin)) :=
  (pe_lc hc hN hi ok hg ht he hs).wk fun σ H Q h => mLc_of fo rd h
theorem tLc_mono {wi : TI} {g : TG} {tt : TT} {te : TE} {vs : List Nat} {σ : St} {H : Hp} {Q Q' : VK} (h : tLc wi g tt te vs σ H Q) (hw : ∀ σ H R R', (∀ J H', R J H' → R' J H') → wi σ H R → wi σ H R') (hq : ∀ v H', Q v H' → Q' v H') : tLc wi g tt te vs σ H Q' :=
  hw σ H _ _ (fun J H1 hh D hD => by
    obtain ⟨Wn, w0, ws⟩ := hh D hD
    exact ⟨Wn, w0, fun i m H hW => (ws i m H hW).imp (fun ⟨a, b⟩ => ⟨a, hq _ _ b⟩) id⟩) h
theorem tI_mono {r : IM} (σ : St) (H : Hp) (R R' : It → Hp → Prop) (q : ∀ J H', R J H' → R' J H') (h : tI c W r σ H R) : tI c W r σ H R' := by
  obtain ⟨ι, β, mh, σm, rel, rl, p⟩ := h
  refine ⟨ι, β, mh, σm, rel, rl, ?_⟩
  cases er : r σm mh with
  | ok lc h1 => rw [er] at p; exact fun ι' H' J inv f a b d => q _ _ (p ι' H' J inv f a b d)
  | ex x h1 => rw [er] at p; exact p
  | bad => rw [er] at p; exact p
theorem s_setLc {i : Nat} {y : Str} {py : Pos} {elt tg iter : Expr} {ifs : List Expr} {scope : Scope} {own : List (Str × Nat)} {pos spos : Pos} {r : IM} {p : TP} {t : TM} {e : EM} {g : TG} (fin : List MV → MH → R MV) (fo : FinOk c fin) (hc : X.calm = true) (hN : X.N.Nodup) (hy : X.N[i]? = some y) (hyl : X.env.scope.names.lookup y = some .local)
    (hsw : swapsWith (.ListComp elt [⟨tg, iter, ifs, 0⟩] scope pos) (some (.Name y py)) spos.line X.env = pure true) (hi : PI X tg iter (tI c W r)) (ok : BlkOk X.N X.env.scope scope own)
    (rd : RdOk c (own.map (·.2)) g p)
    (hg : ∀ (s : Shared) (H : Hp) (C : Addr) (cl : List (Str × Addr)) (fp : List Addr), PG (X.blk s H scope (compEnvC scope cl C X.env) fp) tg g) (ht : ∀ (s : Shared) (H : Hp) (C : Addr) (cl : List (Str × Addr)) (fp : List Addr), PTs (X.blk s H scope (compEnvC scope cl C X.env) fp) ifs (tT c W0 t))
    (he : ∀ (s : Shared) (H : Hp) (C : Addr) (cl : List (Str × Addr)) (fp : List Addr), PE (X.blk s H scope (compEnvC scope cl C X.env) fp) elt (tE c W0 e)) (hs : ∀ x, foldedSetIterable iter X.env x = pure x := by intro _; rfl) :
    PS X (.Assign [.Name y py] (.ListComp elt [⟨tg, iter, ifs, 0⟩] scope pos) spos) (tS c W (sSet i (mLc r p t e (own.map (·.2)) fin))) :=
  (ps_setLc hc hN hy hyl hsw hi ok hg ht he hs).wk fun D σ H ⟨ι, β, mh, σm, rel, rl, q⟩ => by
    have h1 : tE c W (mLc r p t e (own.map (·.2)) fin) σ H _ := run1S (Rp := RV c) rel rl q
    refine tLc_mono (mLc_of fo rd h1) tI_mono fun v H1 ⟨ι1, mh1, a, f1, rel1, rl1, ra1, p1⟩ => ?_
    exact p1 ι1 H1 _ .refl rel1 (rl1.set ra1)
end
end MP

/-! Mirror layer, part 6: operations by values. -/
namespace MP
open PySem PySem.Spec PyProof.Rows L2

section
variable {c : C} {X : Cx}
theorem rb {K : PySem.W.Frag} {ι β : List Addr} {H : Hp} {i : Bool} {v : V} (h : RepV K ι β H (.bl i) v) : v = .bl i := by unfold RepV at h; exact h
theorem rs {K : PySem.W.Frag} {ι β : List Addr} {H : Hp} {i : Str} {v : V} (h : RepV K ι β H (.str i) v) : v = .str i := by unfold RepV at h; exact h
theorem rn {K : PySem.W.Frag} {ι β : List Addr} {H : Hp} {v : V} (h : RepV K ι β H .non v) : v = .non := by unfold RepV at h; exact h

/-! ### ints -/
def iop (f : Int → Int → MV) (ok : Int → Int → Bool) (a b : MV) (h : MH) : R MV := match a, b with
  | .int i, .int j => if ok i j = true then .ok (f i j) h else .bad
  | _, _ => .bad
theorem p2_iop {f : Int → Int → MV} {ok : Int → Int → Bool} {r : R2} {g : Int → Int → V} (hg : ∀ i j ι β H, RepV c.K ι β H (f i j) (g i j)) (hr : ∀ i j H Q, ok i j = true → Q (g i j) H → r (.int i) (.int j) H Q) : P2 c r (iop f ok) := fun ι β H mh a b x y Q W rel ra rb p => by
  cases a with
  | int i =>
    cases b with
    | int j =>
      unfold iop at p
      simp only at p
      split at p
      · rename_i ho
        rw [ri ra, ri rb]
        exact hr i j H Q ho (p ι H _ .refl rel (hg _ _ _ _ _))
      · exact p.elim
    | _ => exact p.elim
  | _ => cases b <;> exact p.elim
def yes2 (_ _ : Int) : Bool := true
def mSubI := iop (fun i j => .int (i - j)) yes2
def mMulI := iop (fun i j => .int (i * j)) fun i j => (decide (-18446744073709551616 < i) && decide (i < 18446744073709551616)) || (decide (-18446744073709551616 < j) && decide (j < 18446744073709551616))
def mDivI := iop (fun i j => .int (i / j)) fun i j => decide (0 < j) && decide (j < 1073741824)
def mModI := iop (fun i j => .int (i % j)) fun i j => decide (0 < j)
def mPowI := iop (fun i j => .int (i ^ j.toNat)) fun i j => decide (0 ≤ j) && decide (j ≤ 1000000) && decide (i.natAbs < 18446744073709551616)
def mShlI := iop (fun i j => .int (i * 2 ^ j.toNat)) fun i j => decide (0 ≤ j) && decide (j ≤ 1000000) && decide (i.natAbs < 18446744073709551616)
def mShrI := iop (fun i j => .int (i / 2 ^ j.toNat)) fun i j => decide (0 ≤ j)
def mLt := iop (fun i j => .bl (decide (i < j))) yes2
def mLe := iop (fun i j => .bl (decide (i ≤ j))) yes2
def mGt := iop (fun i j => .bl (decide (j < i))) yes2
def mGe := iop (fun i j => .bl (decide (j ≤ i))) yes2
theorem p_sub : P2 c (rI0 fun i j => .int (i - j)) mSubI := p2_iop (fun _ _ _ _ _ => rint _ _ _) fun i j H Q _ q => ⟨i, j, rfl, rfl, q⟩
theorem p_mul : P2 c (rI CMul fun i j => .int (i * j)) mMulI := p2_iop (fun _ _ _ _ _ => rint _ _ _) fun i j H Q ho q => by
  simp only [Bool.or_eq_true, Bool.and_eq_true, decide_eq_true_eq] at ho
  refine ⟨i, j, rfl, rfl, ?_, q⟩
  rcases ho with h | h
  · exact .inl ⟨by simpa using h.1, by simpa using h.2⟩
  · exact .inr ⟨by simpa using h.1, by simpa using h.2⟩
theorem p_div : P2 c (rI CDiv fun i j => .int (i / j)) mDivI := p2_iop (fun _ _ _ _ _ => rint _ _ _) fun i j H Q ho q => by
  simp only [Bool.and_eq_true, decide_eq_true_eq] at ho
  exact ⟨i, j, rfl, rfl, ⟨ho.1, ho.2⟩, q⟩
theorem p_mod : P2 c (rI (fun _ j => 0 < j) fun i j => .int (i % j)) mModI := p2_iop (fun _ _ _ _ _ => rint _ _ _) fun i j H Q ho q => ⟨i, j, rfl, rfl, by simpa using ho, q⟩
theorem p_pow : P2 c (rI CPow fun i j => .int (i ^ j.toNat)) mPowI := p2_iop (fun _ _ _ _ _ => rint _ _ _) fun i j H Q ho q => by
  simp only [Bool.and_eq_true, decide_eq_true_eq] at ho
  exact ⟨i, j, rfl, rfl, ⟨ho.1.1, ho.1.2, by simpa using ho.2⟩, q⟩
theorem p_shl : P2 c (rI CPow fun i j => .int (i * 2 ^ j.toNat)) mShlI := p2_iop (fun _ _ _ _ _ => rint _ _ _) fun i j H Q ho q => by
  simp only [Bool.and_eq_true, decide_eq_true_eq] at ho
  exact ⟨i, j, rfl, rfl, ⟨ho.1.1, ho.1.2, by simpa using ho.2⟩, q⟩
theorem p_shr : P2 c (rI (fun _ j => 0 ≤ j) fun i j => .int (i / 2 ^ j.toNat)) mShrI := p2_iop (fun _ _ _ _ _ => rint _ _ _) fun i j H Q ho q => ⟨i, j, rfl, rfl, by simpa using ho, q⟩
theorem p_lt : P2 c (rI0 fun i j => .bl (decide (i < j))) mLt := p2_iop (fun _ _ _ _ _ => rbl _ _ _) fun i j H Q _ q => ⟨i, j, rfl, rfl, q⟩
theorem p_le : P2 c (rI0 fun i j => .bl (decide (i ≤ j))) mLe := p2_iop (fun _ _ _ _ _ => rbl _ _ _) fun i j H Q _ q => ⟨i, j, rfl, rfl, q⟩
theorem p_gt : P2 c (rI0 fun i j => .bl (decide (j < i))) mGt := p2_iop (fun _ _ _ _ _ => rbl _ _ _) fun i j H Q _ q => ⟨i, j, rfl, rfl, q⟩
theorem p_ge : P2 c (rI0 fun i j => .bl (decide (j ≤ i))) mGe := p2_iop (fun _ _ _ _ _ => rbl _ _ _) fun i j H Q _ q => ⟨i, j, rfl, rfl, q⟩
def mNeg (a : MV) (h : MH) : R MV := match a with
  | .int i => .ok (.int (-i)) h
  | _ => .bad
theorem p_neg : P1 c (rU fun i => .int (-i)) mNeg := fun ι β H mh a x Q W rel ra p => by
  cases a with
  | int i => exact ⟨i, ri ra, p ι H _ .refl rel (rint _ _ _)⟩
  | _ => exact p.elim

/-! ### lists -/
def asL (v : MV) (h : MH) : Option (List MV) := match v with
  | .lv l => some l
  | .ref n => match h[n]? with
    | some (.lst l) => some l
    | _ => none
  | _ => none
theorem asL_rep {v : MV} {h : MH} {l : List MV} {ι β : List Addr} {H : Hp} {x : V} (e : asL v h = some l) (rel : Rel c ι β H h) (rv : RepV c.K ι β H v x) : ∃ a vs, x = .ref a ∧ H a = some (.lst vs) ∧ RepVs c.K ι β H l vs := by
  cases v with
  | lv l' =>
    unfold asL at e
    cases e
    unfold RepV at rv
    obtain ⟨a, vs, rfl, ⟨q, _⟩, r⟩ := rv
    exact ⟨a, vs, rfl, q, r⟩
  | ref n =>
    unfold RepV at rv
    obtain ⟨a, rfl, ea⟩ := rv
    obtain ⟨o, eo, ro⟩ := rel.at ea
    unfold asL at e
    simp only [eo] at e
    cases o with
    | lst l' =>
      cases e
      obtain ⟨vs, q, r⟩ := ro
      exact ⟨a, vs, rfl, q, r⟩
    | dct _ => cases e
    | fdc _ => cases e
    | ins _ _ => cases e
  | _ => cases e
/-- a list that is new at p -/
def FinN (c : C) (fin : List MV → MH → R MV) : Prop := ∀ ι β H mh l vs p Q W, Rel c ι β H mh → RepVs c.K ι β H l vs → H p = none → Post c ι β H (RV c) Q W (fin l mh) → Q (.ref p) (upd H p (.lst vs))
theorem finN_V : FinN c finV := fun ι β H mh l vs p Q W rel r hp q => q ι _ _ (Fr.lay rel hp) (rel.lay hp) (rep_lv rel hp r)
theorem finN_R : FinN c finR := fun ι β H mh l vs p Q W rel r hp q => q (ι ++ [p]) _ _ (Fr.new rel hp) (rel.new hp ⟨vs, upd_same, r.mono (Fr.new rel hp)⟩) (rep_ref rel)

/-! ### + -/
def mAdd (fin : List MV → MH → R MV) (a b : MV) (h : MH) : R MV := match a, b with
  | .int i, .int j => .ok (.int (i + j)) h
  | .str x, .str y => if x.length + y.length ≤ SZ then .ok (.str (x ++ y)) h else .bad
  | .tup l, .tup r => if l.length + r.length ≤ SZ then .ok (.tup (l ++ r)) h else .bad
  | a, b => match asL a h, asL b h with
    | some l, some r => if l.length + r.length ≤ SZ then fin (l ++ r) h else .bad
    | _, _ => .bad
def rAdd4 (K : PySem.W.Frag) : R2 := fun x y H Q => (((∃ i j, x = .int i ∧ y = .int j ∧ Q (.int (i + j)) H) ∨ (∃ i j, x = .str i ∧ y = .str j ∧ i.length + j.length ≤ sizeLine ∧ Q (.str (i ++ j)) H)) ∨ rCatA K x y H Q) ∨ rCat x y H Q
theorem op_add4 : OpR X (binaryOp .Add) (rAdd4 X.K) := ((op_add.or op_add_str).or op_catA).or op_cat
theorem p_add {fin : List MV → MH → R MV} (hf : FinN c fin) : P2 c (rAdd4 c.K) (mAdd fin) := fun ι β H mh a b x y Q W rel ra rb p => by
  have lists : ∀ l r, asL a mh = some l → asL b mh = some r → l.length + r.length ≤ SZ → Post c ι β H (RV c) Q W (fin (l ++ r) mh) → rAdd4 c.K x y H Q := fun l r e1 e2 hl p => by
    obtain ⟨a1, v1, rfl, q1, r1⟩ := asL_rep e1 rel ra
    obtain ⟨a2, v2, rfl, q2, r2⟩ := asL_rep e2 rel rb
    exact .inr ⟨a1, a2, v1, v2, rfl, rfl, q1, q2, by rw [← r1.length, ← r2.length, sz_eq]; exact hl, fun z hz => hf _ _ _ _ _ _ _ _ _ rel (r1.append r2) hz p⟩
  unfold mAdd at p
  split at p
  · exact .inl (.inl (.inl ⟨_, _, ri ra, ri rb, p ι H _ .refl rel (rint _ _ _)⟩))
  · split at p
    · rename_i hl
      exact .inl (.inl (.inr ⟨_, _, rs ra, rs rb, by rw [sz_eq]; exact hl, p ι H _ .refl rel (rstr _ _ _)⟩))
    · exact p.elim
  · split at p
    · rename_i l r hl
      obtain ⟨a1, v1, rfl, q1, r1⟩ := ra.tup_iff
      obtain ⟨a2, v2, rfl, q2, r2⟩ := rb.tup_iff
      refine .inl (.inr ⟨a1, a2, v1, v2, rfl, rfl, q1, q2, by rw [← r1.length, ← r2.length, sz_eq]; exact hl, fun e => ?_, fun _ e => ?_, fun _ _ z hz => ?_⟩)
      · subst e
        have : l = [] := by have := r1.length; simpa using this
        subst this
        exact p ι H _ .refl rel rb
      · subst e
        have : r = [] := by have := r2.length; simpa using this
        subst this
        exact p ι H _ .refl rel (by rw [List.append_nil]; exact ra)
      · exact p ι _ _ (Fr.lay rel hz) (rel.lay hz) (rep_tup rel hz (r1.append r2))
    · exact p.elim
  · split at p
    · rename_i e1 e2
      split at p
      · exact lists _ _ e1 e2 (by assumption) p
      · exact p.elim
    · exact p.elim

/-! ### subscripts -/
def asS (v : MV) (h : MH) : Option (List MV) := match v with
  | .lv l => some l
  | .fz l => some l
  | .tup l => some l
  | .ref n => match h[n]? with
    | some (.lst l) => some l
    | _ => none
  | _ => none
theorem asS_rep {v : MV} {h : MH} {l : List MV} {ι β : List Addr} {H : Hp} {x : V} (e : asS v h = some l) (rel : Rel c ι β H h) (rv : RepV c.K ι β H v x) : ∃ a vs, x = .ref a ∧ (SqL c.K H a vs ∨ SqT c.K H a vs) ∧ RepVs c.K ι β H l vs := by
  cases v with
  | lv l' =>
    obtain ⟨a, vs, e1, q, r⟩ := asL_rep (v := .lv l') (l := l) (by cases e; rfl) rel rv
    exact ⟨a, vs, e1, .inl (.inl (.inl q)), r⟩
  | tup l' =>
    cases e
    obtain ⟨a, vs, e1, q, r⟩ := rv.tup_iff
    exact ⟨a, vs, e1, .inr q, r⟩
  | fz l' =>
    cases e
    obtain ⟨a, vs, rfl, q, r⟩ := rv.fz_iff
    exact ⟨a, vs, rfl, .inl q, r⟩
  | ref n =>
    obtain ⟨a, vs, e1, q, r⟩ := asL_rep (v := .ref n) (l := l) (by unfold asS at e; unfold asL; exact e) rel rv
    exact ⟨a, vs, e1, .inl (.inl (.inl q)), r⟩
  | _ => cases e
def mIx (a b : MV) (h : MH) : R MV := match b with
  | .int i => match asS a h with
    | some l => match atI l i with
      | some v => .ok v h
      | none => .bad
    | none => match a with
      | .str z => if z.length ≤ SZ then match atI z.cps.toList i with
        | some k => .ok (.str ⟨#[k]⟩) h
        | none => .bad
        else .bad
      | _ => .bad
  | _ => .bad
theorem atI_rep {K : PySem.W.Frag} {ι β : List Addr} {H : Hp} {l : List MV} {vs : List V} {i : Int} {m : MV} (r : RepVs K ι β H l vs) (e : atI l i = some m) : ∃ v, atI vs i = some v ∧ RepV K ι β H m v := by
  unfold atI at e ⊢
  rw [← r.length]
  cases ej : ixN l.length i with
  | none => rw [ej] at e; cases e
  | some j =>
    rw [ej] at e
    exact r.get e
theorem p_ix : P2 c (rIx c.K) mIx := fun ι β H mh a b x y Q W rel ra rb p => by
  cases b with
  | int i =>
    unfold mIx at p
    simp only at p
    cases es : asS a mh with
    | some l =>
      simp only [es] at p
      cases ea : atI l i with
      | none => simp only [ea] at p; exact p.elim
      | some v =>
        simp only [ea] at p
        obtain ⟨q, vs, rfl, sq, r⟩ := asS_rep es rel ra
        obtain ⟨u, eu, ru⟩ := atI_rep r ea
        have := p ι H u .refl rel ru
        rcases sq with sq | sq
        · exact .inl ⟨q, vs, i, u, rfl, ri rb, sq, eu, this⟩
        · exact .inr (.inl ⟨q, vs, i, u, rfl, ri rb, sq, eu, this⟩)
    | none =>
      simp only [es] at p
      cases a with
      | str z =>
        simp only at p
        split at p
        · rename_i hz
          cases ea : atI z.cps.toList i with
          | none => simp only [ea] at p; exact p.elim
          | some k =>
            simp only [ea] at p
            exact .inr (.inr ⟨z, i, k, rs ra, ri rb, by rw [sz_eq]; exact hz, ea, p ι H _ .refl rel (rstr _ _ _)⟩)
        · exact p.elim
      | _ => exact p.elim
  | _ => exact p.elim
/-! x[lo:hi] -/
def cutM (l : List MV) (lo hi : Option Int) : List MV := (l.drop (HT.sIx l.length 0 lo)).take (HT.sIx l.length l.length hi - HT.sIx l.length 0 lo)
theorem cut_rep {K : PySem.W.Frag} {ι β : List Addr} {H : Hp} {l : List MV} {vs : List V} {lo hi : Option Int} (r : RepVs K ι β H l vs) : RepVs K ι β H (cutM l lo hi) (cutV vs lo hi) := by
  unfold cutM cutV
  rw [← r.length]
  exact (r.drop _).take _
abbrev OM := Lo → MH → R (Option Int)
def tO (c : C) (W : WX) (r : OM) : St → Hp → (Option Int → Hp → Prop) → Prop := tR c W (fun _ _ _ a b => a = b) r
@[simp] def oNone : OM := fun _ h => .ok none h
@[simp] def oSome (r : EM) : OM := fun σ h => bindR (r σ h) fun v h1 => match v with
  | .int i => .ok (some i) h1
  | _ => .bad
variable {W : WX} {e lo hi : Expr} {re : EM}
theorem _root_.L2.PO.wk {o : Option Expr} {t t' : St → Hp → (Option Int → Hp → Prop) → Prop} (h : PO X o t) (w : ∀ σ H Q, t' σ H Q → t σ H Q) : PO X o t' := ⟨fun pins s σ H Q I q => h.run pins s σ H Q I (w σ H Q q)⟩
theorem o_none : PO X none (tO c W oNone) := po_none.wk fun σ H Q ⟨ι, β, mh, σm, rel, rl, p⟩ => p ι H none .refl rel rfl
theorem o_some (he : PE X e (tE c W re)) : PO X (some e) (tO c W (oSome re)) := (po_some he).wk fun σ H Q ⟨ι, β, mh, σm, rel, rl, p⟩ => by
  refine (run1 rel rl p).mono fun x H1 ⟨ι1, mh1, a, f1, rel1, rl1, ra1, p1⟩ => ?_
  cases a with
  | int i => exact ⟨i, ri ra1, p1 ι1 H1 _ .refl rel1 rfl⟩
  | _ => exact p1.elim
def mSl (fin : List MV → MH → R MV) (a : MV) (lo hi : Option Int) (h : MH) : R MV := match a with
  | .tup l => .ok (.tup (cutM l lo hi)) h
  | a => match asL a h with
    | some l => fin (cutM l lo hi) h
    | none => .bad
@[simp] def m3o (f : MV → Option Int → Option Int → MH → R MV) (ra : EM) (rl ru : OM) : EM := fun σ h => bindR (ra σ h) fun a h1 => bindR (rl σ h1) fun l h2 => bindR (ru σ h2) fun u h3 => f a l u h3
def rSlLT (K : PySem.W.Frag) : V → Option Int → Option Int → Hp → VK → Prop := fun x lo hi H Q => rSlL K x lo hi H Q ∨ rSlA K x lo hi H Q
theorem sl_LT : SlR X (rSlLT X.K) := sl_list.or sl_tupA
theorem e_slice {rl ru : OM} {lo hi : Option Expr} {p2 pos : Pos} {fin : List MV → MH → R MV} (hf : FinN c fin) (hK : X.K = c.K) (he : PE X e (tE c W re)) (hl : PO X lo (tO c W rl)) (hu : PO X hi (tO c W ru)) : PE X (.Subscript e (.Slice lo hi none p2) pos) (tE c W (m3o (mSl fin) re rl ru)) :=
  (pe_slice sl_LT he hl hu).wk fun σ H Q ⟨ι, β, mh, σm, rel, rl, p⟩ => by
    refine (run1 rel rl p).mono fun x H1 ⟨ι1, mh1, a, f1, rel1, rl1, ra1, p1⟩ => ?_
    refine (run1 rel1 rl1 p1).mono fun l H2 ⟨ι2, mh2, l', f2, rel2, rl2, rl', p2⟩ => ?_
    refine (run1 rel2 rl2 p2).mono fun u H3 ⟨ι3, mh3, u', f3, rel3, rl3, ru', p3⟩ => ?_
    obtain rfl : l' = l := rl'
    obtain rfl : u' = u := ru'
    have rx := (ra1.mono f2).mono f3
    have key : Post c ι3 β H3 (RV c) Q (fun cls d H' => W cls d σ H') (match asL a mh3 with | some l => fin (cutM l l' u') mh3 | none => .bad) → rSlLT X.K x l' u' H3 Q := fun p3 => by
      cases es : asL a mh3 with
      | none => simp only [es] at p3; exact p3.elim
      | some l =>
        simp only [es] at p3
        obtain ⟨q, vs, rfl, sq, r⟩ := asL_rep es rel3 rx
        exact .inl ⟨q, vs, rfl, .inl (.inl sq), fun z hz => hf _ _ _ _ _ _ _ _ _ rel3 (cut_rep r) hz p3⟩
    cases a with
    | tup lt =>
      have p4 : Post c ι3 β H3 (RV c) Q (fun cls d H' => W cls d σ H') (.ok (.tup (cutM lt l' u')) mh3) := p3
      obtain ⟨q, vs, rfl, sq, r⟩ := rx.tup_iff
      refine .inr ⟨q, vs, rfl, by rw [hK]; exact sq, fun hw => ?_, fun _ z hz => p4 ι3 _ _ (Fr.lay rel3 hz) (rel3.lay hz) (rep_tup rel3 hz (cut_rep r))⟩
      have e : cutM lt l' u' = lt := by
        unfold cutM
        rw [r.length, hw.1, hw.2, ← r.length]
        simp
      rw [e] at p4
      exact p4 ι3 H3 _ .refl rel3 rx
    | _ => exact key p3

/-! ### calls of built-ins with values -/
theorem e_builtin {id : String} {x : Str} {p pos : Pos} {es : List Expr} {r : List V → Hp → VK → Prop} {f : List MV → MH → R MV} {rs : AM} (hc : CallR X (.builtin id) r) (hp : PN c r f) (hg : Gl X x) (hm : X.mg x = none) (hv : bootBuiltins x = some (.builtin id)) (ha : PA X (e :: es) (tA c W rs)) (hn : x ≠ "__name__" := by decide) (hdb : (x == ("__debug__" : Str)) = false := by decide)
    (he : starEach (e :: es) X.env = (false, eval e X.env) :: starEach es X.env := by rfl) (hpl : (backTo pos (starEach es X.env)).any (·.1) = false := by rfl) : PE X (.Call (.Name x p) (e :: es) [] pos) (tE c W (mN f rs)) :=
  (pe_callB hc hg hm hv ha hn hdb he hpl).wk fun σ H Q h => mN_of hp h
theorem e_builtinTy {T : String} {x : Str} {p pos : Pos} {es : List Expr} {r : List V → Hp → VK → Prop} {f : List MV → MH → R MV} {rs : AM} (hc : CallR X (.type T) r) (hp : PN c r f) (hg : Gl X x) (hm : X.mg x = none) (hv : bootBuiltins x = some (.type T)) (ha : PA X (e :: es) (tA c W rs)) (hn : x ≠ "__name__" := by decide) (hdb : (x == ("__debug__" : Str)) = false := by decide)
    (he : starEach (e :: es) X.env = (false, eval e X.env) :: starEach es X.env := by rfl) (hpl : (backTo pos (starEach es X.env)).any (·.1) = false := by rfl) : PE X (.Call (.Name x p) (e :: es) [] pos) (tE c W (mN f rs)) :=
  (pe_callTy hc hg hm hv ha hn hdb he hpl).wk fun σ H Q h => mN_of hp h
@[simp] def mMax (as : List MV) (h : MH) : R MV := match as with
  | [.int i, .int j] => .ok (.int (if j > i then j else i)) h
  | _ => .bad
@[simp] def mMin (as : List MV) (h : MH) : R MV := match as with
  | [.int i, .int j] => .ok (.int (if j < i then j else i)) h
  | _ => .bad
theorem p_max : PN c (fun xs H Q => ∃ i j, xs = [.int i, .int j] ∧ Q (.int (if j > i then j else i)) H) mMax := fun ι β H mh as xs Q W rel ra p => by
  unfold mMax at p
  split at p
  · obtain ⟨v, v', rfl, q, q'⟩ := Vs2 ra
    rw [ri q, ri q']
    exact ⟨_, _, rfl, p ι H _ .refl rel (rint _ _ _)⟩
  · exact p.elim
theorem p_min : PN c (fun xs H Q => ∃ i j, xs = [.int i, .int j] ∧ Q (.int (if j < i then j else i)) H) mMin := fun ι β H mh as xs Q W rel ra p => by
  unfold mMin at p
  split at p
  · obtain ⟨v, v', rfl, q, q'⟩ := Vs2 ra
    rw [ri q, ri q']
    exact ⟨_, _, rfl, p ι H _ .refl rel (rint _ _ _)⟩
  · exact p.elim
def mInt (as : List MV) (h : MH) : R MV := match as with
  | [.int i] => .ok (.int i) h
  | [.bl k] => .ok (.int (if k then 1 else 0)) h
  | _ => .bad
theorem p_int : PN c (fun xs H Q => (∃ i, xs = [.int i] ∧ Q (.int i) H) ∨ ∃ k, xs = [.bl k] ∧ Q (.int (if k then 1 else 0)) H) mInt := fun ι β H mh as xs Q W rel ra p => by
  unfold mInt at p
  split at p
  · obtain ⟨v, rfl, q⟩ := Vs1 ra
    rw [ri q]
    exact .inl ⟨_, rfl, p ι H _ .refl rel (rint _ _ _)⟩
  · obtain ⟨v, rfl, q⟩ := Vs1 ra
    rw [rb q]
    exact .inr ⟨_, rfl, p ι H _ .refl rel (rint _ _ _)⟩
  · exact p.elim
def mLen (as : List MV) (h : MH) : R MV := match as with
  | [a] => match asS a h with
    | some l => .ok (.int l.length) h
    | none => match a with
      | .str z => if z.length ≤ SZ then .ok (.int z.length) h else .bad
      | _ => .bad
  | _ => .bad
theorem p_len : PN c (fun xs H Q => ∃ x n, xs = [x] ∧ LenV c.K x H n ∧ Q (.int n) H) mLen := fun ι β H mh as xs Q W rel ra p => by
  unfold mLen at p
  split at p
  · rename_i a
    obtain ⟨v, rfl, q⟩ := Vs1 ra
    cases es : asS a mh with
    | some l =>
      simp only [es] at p
      obtain ⟨b, vs, rfl, sq, r⟩ := asS_rep es rel q
      refine ⟨.ref b, l.length, rfl, ?_, p ι H _ .refl rel (rint _ _ _)⟩
      rcases sq with sq | sq
      · exact .inl ⟨vs, sq, r.length⟩
      · exact .inr ⟨vs, sq, r.length⟩
    | none =>
      simp only [es] at p
      split at p
      · split at p
        · rename_i z hz
          rw [rs q]
          exact ⟨.str z, z.length, rfl, ⟨by rw [sz_eq]; exact hz, rfl⟩, p ι H _ .refl rel (rint _ _ _)⟩
        · exact p.elim
      · exact p.elim
  · exact p.elim
/-! list(range(..)) -/
def mListRg (fin : List MV → MH → R MV) (lc : List MV × (MH → Bool)) (h : MH) : R MV := fin lc.1 h
def mList (fin : List MV → MH → R MV) (as : List MV) (h : MH) : R MV := match as with
  | [a] => match asS a h with
    | some l => fin l h
    | none => .bad
  | _ => .bad
theorem p_list {fin : List MV → MH → R MV} (hf : FinN c fin) : PN c (fun xs H Q => ∃ p ys, xs = [.ref p] ∧ (SqL c.K H p ys ∨ SqT c.K H p ys) ∧ ∀ l, H l = none → Q (.ref l) (upd H l (.lst ys))) (mList fin) := fun ι β H mh as xs Q W rel ra p => by
  unfold mList at p
  split at p
  · rename_i a
    obtain ⟨v, rfl, q⟩ := Vs1 ra
    cases es : asS a mh with
    | some l =>
      simp only [es] at p
      obtain ⟨b, vs, rfl, sq, r⟩ := asS_rep es rel q
      exact ⟨b, vs, rfl, sq, fun z hz => hf _ _ _ _ _ _ _ _ _ rel r hz p⟩
    | none => simp only [es] at p; exact p.elim
  · exact p.elim

/-! ### == of data -/
def toD (h : MH) : Nat → MV → Option PyData
  | 0, _ => none
  | f + 1, m => match m with
    | .non => some .none
    | .bl b => some (.bool b)
    | .int i => some (.int i)
    | .str x => some (.str x)
    | .tup l => (mapO (toD h f) l).map .tuple
    | .lv l => (mapO (toD h f) l).map .list
    | .fz l => (mapO (toD h f) l).map .list
    | .dv _ _ => none
    | .ref n => match h[n]? with
      | some (.lst l) => (mapO (toD h f) l).map .list
      | _ => none
theorem mapO_dp {ι β : List Addr} {H : Hp} {f : MV → Option PyData} (hf : ∀ m d v, f m = some d → RepV c.K ι β H m v → Dp c.K H v d) : ∀ {l : List MV} {ds : List PyData} {vs : List V}, mapO f l = some ds → RepVs c.K ι β H l vs → DpAll c.K H vs ds
  | [], _, _, e, h => by
    simp only [mapO, Option.some.injEq] at e
    subst e
    rw [h.nil_iff]; exact .nil
  | a :: l, _, _, e, h => by
    obtain ⟨v, r, rfl, q, t⟩ := h.cons_iff
    unfold mapO at e
    cases e1 : f a with
    | none => simp [e1] at e
    | some b =>
      cases e2 : mapO f l with
      | none => simp [e1, e2] at e
      | some r' =>
        simp only [e1, e2, Option.some.injEq] at e
        subst e
        exact .cons (hf _ _ _ e1 q) (mapO_dp hf e2 t)
theorem toD_dp {ι β : List Addr} {H : Hp} {mh : MH} (rel : Rel c ι β H mh) : ∀ (f : Nat) (m : MV) (d : PyData) (v : V), toD mh f m = some d → RepV c.K ι β H m v → Dp c.K H v d
  | 0, m, d, v, e, h => by unfold toD at e; cases e
  | f + 1, m, d, v, e, h => by
    unfold toD at e
    cases m with
    | non => cases e; rw [rn h]; exact .non
    | bl b => cases e; rw [rb h]; exact .bl b
    | int i => cases e; rw [ri h]; exact .int i
    | str x => cases e; rw [rs h]; exact .str x
    | dv _ _ => cases e
    | tup l =>
      simp only [Option.map_eq_some_iff] at e
      obtain ⟨ds, e, rfl⟩ := e
      obtain ⟨a, vs, rfl, sq, r⟩ := h.tup_iff
      exact .tup sq (mapO_dp (toD_dp rel f) e r)
    | lv l =>
      simp only [Option.map_eq_some_iff] at e
      obtain ⟨ds, e, rfl⟩ := e
      obtain ⟨a, vs, rfl, sq, r⟩ := asL_rep (l := l) rfl rel h
      exact .lst (.inl (.inl sq)) (mapO_dp (toD_dp rel f) e r)
    | fz l =>
      simp only [Option.map_eq_some_iff] at e
      obtain ⟨ds, e, rfl⟩ := e
      obtain ⟨a, vs, rfl, q, r⟩ := h.fz_iff
      exact .lst q (mapO_dp (toD_dp rel f) e r)
    | ref n =>
      simp only at e
      cases eo : mh[n]? with
      | none => simp only [eo] at e; cases e
      | some o =>
        simp only [eo] at e
        cases o with
        | lst l =>
          simp only [Option.map_eq_some_iff] at e
          obtain ⟨ds, e, rfl⟩ := e
          obtain ⟨a, vs, rfl, sq, r⟩ := asL_rep (v := .ref n) (l := l) (by unfold asL; simp only [eo]) rel h
          exact .lst (.inl (.inl sq)) (mapO_dp (toD_dp rel f) e r)
        | dct _ => cases e
        | fdc _ => cases e
        | ins _ _ => cases e
def eqMV (neg : Bool) (a b : MV) (h : MH) : R MV := match toD h 12 a, toD h 12 b with
  | some d, some e => if (SeqAt.shaped d && SeqAt.shaped e) = true then .ok (.bl (if neg then !PyData.eqv d e else PyData.eqv d e)) h else .bad
  | _, _ => .bad
def mEq := eqMV false
def mNe := eqMV true
theorem p_eq : P2 c (rEqD c.K) mEq := fun ι β H mh a b x y Q W rel ra rb p => by
  unfold mEq eqMV at p
  split at p
  · rename_i d e h1 h2
    split at p
    · rename_i hs
      rw [Bool.and_eq_true] at hs
      exact ⟨d, e, toD_dp rel _ _ _ _ h1 ra, toD_dp rel _ _ _ _ h2 rb, hs.1, hs.2, p ι H _ .refl rel (rbl _ _ _)⟩
    · exact p.elim
  · exact p.elim
theorem p_ne : P2 c (rNeD c.K) mNe := fun ι β H mh a b x y Q W rel ra rb p => by
  unfold mNe eqMV at p
  split at p
  · rename_i d e h1 h2
    split at p
    · rename_i hs
      rw [Bool.and_eq_true] at hs
      exact ⟨d, e, toD_dp rel _ _ _ _ h1 ra, toD_dp rel _ _ _ _ h2 rb, hs.1, hs.2, p ι H _ .refl rel (rbl _ _ _)⟩
    · exact p.elim
  · exact p.elim
/-! ### is -/
def mIsN (neg : Bool) (a b : MV) (h : MH) : R MV := match b with
  | .non => match a with
    | .non => .ok (.bl (!neg)) h
    | _ => .ok (.bl neg) h
  | .bl k => match a with
    | .bl j => .ok (.bl (if neg then !decide (j = k) else decide (j = k))) h
    | _ => .bad
  | _ => .bad
def mIs := mIsN false
def mIsNot := mIsN true
def rIsA : R2 := fun x y H Q => (y = .non ∧ Q (.bl (decide (x = .non))) H) ∨ (∃ a b, x = .bl a ∧ y = .bl b ∧ Q (.bl (decide (a = b))) H)
def rIsNotA : R2 := fun x y H Q => (y = .non ∧ Q (.bl (!decide (x = .non))) H) ∨ (∃ a b, x = .bl a ∧ y = .bl b ∧ Q (.bl (!decide (a = b))) H)
theorem op_isA : OpR X (compareOp .Is) rIsA := op_isN.or op_is_bl
theorem op_isNotA : OpR X (compareOp .IsNot) rIsNotA := op_notN.or op_isnot_bl
theorem rep_non_iff {ι β : List Addr} {H : Hp} {a : MV} {x : V} (h : RepV c.K ι β H a x) : (x = .non) ↔ a = .non := by
  cases a with
  | non => rw [rn h]; simp
  | bl b => rw [rb h]; simp
  | int b => rw [ri h]; simp
  | str b => rw [rs h]; simp
  | tup l => unfold RepV at h; obtain ⟨a, vs, rfl, _⟩ := h; simp
  | lv l => unfold RepV at h; obtain ⟨a, vs, rfl, _⟩ := h; simp
  | fz l => unfold RepV at h; obtain ⟨a, vs, rfl, _⟩ := h; simp
  | dv l r => unfold RepV at h; obtain ⟨a, vs, rfl, _⟩ := h; simp
  | ref n => unfold RepV at h; obtain ⟨a, rfl, _⟩ := h; simp
theorem p_is : P2 c rIsA mIs := fun ι β H mh a b x y Q W rel ra rb' p => by
  cases b with
  | non =>
    refine .inl ⟨rn rb', ?_⟩
    cases a with
    | non => rw [rn ra]; exact p ι H _ .refl rel (rbl _ _ _)
    | _ => rw [decide_eq_false (fun z => by have := (rep_non_iff ra).mp z; cases this)]; exact p ι H _ .refl rel (rbl _ _ _)
  | bl k =>
    cases a with
    | bl j => exact .inr ⟨j, k, rb ra, rb rb', p ι H _ .refl rel (rbl _ _ _)⟩
    | _ => exact p.elim
  | _ => exact p.elim
theorem p_isnot : P2 c rIsNotA mIsNot := fun ι β H mh a b x y Q W rel ra rb' p => by
  cases b with
  | non =>
    refine .inl ⟨rn rb', ?_⟩
    cases a with
    | non => rw [rn ra]; exact p ι H _ .refl rel (rbl _ _ _)
    | _ => rw [decide_eq_false (fun z => by have := (rep_non_iff ra).mp z; cases this)]; exact p ι H _ .refl rel (rbl _ _ _)
  | bl k =>
    cases a with
    | bl j => exact .inr ⟨j, k, rb ra, rb rb', p ι H _ .refl rel (rbl _ _ _)⟩
    | _ => exact p.elim
  | _ => exact p.elim
end
end MP

/-! Mirror layer, part 7: isinstance, list(range(..)), sorted, methods of lists, stores into lists. -/
namespace MP
open PySem PySem.Spec PyProof.Rows L2

/-! ### isinstance -/
inductive TyN where
  | non | bl | int | str | tup | lst | dct
  deriving DecidableEq
def TyN.name : TyN → String
  | .non => "NoneType"
  | .bl => "bool"
  | .int => "int"
  | .str => "str"
  | .tup => "tuple"
  | .lst => "list"
  | .dct => "dict"
def subN (a b : TyN) : Bool := match a, b with
  | .non, .non => true
  | .bl, .bl => true
  | .bl, .int => true
  | .int, .int => true
  | .str, .str => true
  | .tup, .tup => true
  | .lst, .lst => true
  | .dct, .dct => true
  | _, _ => false
theorem kit_tab : ∀ a b : TyN, kitB a.name b.name = some (subN a b) := by
  intro a b
  cases a <;> cases b <;> decide +kernel
def tyN (v : MV) (h : MH) : Option TyN := match v with
  | .non => some .non
  | .bl _ => some .bl
  | .int _ => some .int
  | .str _ => some .str
  | .tup _ => some .tup
  | .lv _ => some .lst
  | .fz _ => some .lst
  | .dv _ _ => some .dct
  | .ref n => match h[n]? with
    | some (.lst _) => some .lst
    | some (.dct _) => some .dct
    | some (.fdc _) => some .dct
    | _ => none
section
variable {c : C} {X : Cx} {W : WX}
theorem tyN_rep {v : MV} {h : MH} {t : TyN} {ι β : List Addr} {H : Hp} {x : V} (e : tyN v h = some t) (rel : Rel c ι β H h) (rv : RepV c.K ι β H v x) : TyX c.K H x (.type t.name) := by
  cases v with
  | non => cases e; rw [rn rv]; exact .base .non
  | bl b => cases e; rw [rb rv]; exact .base (.bl _)
  | int i => cases e; rw [ri rv]; exact .base (.int _)
  | str z => cases e; rw [rs rv]; exact .base (.str _)
  | tup l =>
    cases e
    unfold RepV at rv
    obtain ⟨a, vs, rfl, q, r⟩ := rv
    rcases q with ⟨q, _⟩ | ⟨o, its, n, hk, hc, hd, hz, hv⟩
    · exact .base (.tup q)
    · exact .kTuple hk hc
  | lv l =>
    cases e
    unfold RepV at rv
    obtain ⟨a, vs, rfl, ⟨q, _⟩, r⟩ := rv
    exact .base (.lst q)
  | fz l =>
    cases e
    unfold RepV at rv
    obtain ⟨a, vs, rfl, q, r⟩ := rv
    rcases q with ⟨⟨o, q⟩, _⟩ | ⟨o, its, n, hk, hc, hd, hz, hv⟩
    · exact .base (.frz q)
    · exact .kList hk hc
  | dv l r =>
    cases e
    unfold RepV at rv
    obtain ⟨a, vs, rfl, ⟨⟨o, q, iv⟩, _⟩, r⟩ := rv
    rcases iv with rfl | ⟨od, rfl⟩
    · exact .base (.dK q)
    · exact .fDict q
  | ref n =>
    unfold RepV at rv
    obtain ⟨a, rfl, ea⟩ := rv
    obtain ⟨o, eo, ro⟩ := rel.at ea
    unfold tyN at e
    simp only [eo] at e
    cases o with
    | lst l => cases e; obtain ⟨vs, q, _⟩ := ro; exact .base (.lst q)
    | dct l => cases e; obtain ⟨vs, q, _⟩ := ro; exact .base (.dK q)
    | fdc l => cases e; obtain ⟨od, vs, q, _⟩ := ro; exact .fDict q
    | ins _ _ => cases e
def isT (T : TyN) (a : MV) (h : MH) : R MV := match tyN a h with
  | some t => .ok (.bl (subN t T)) h
  | none => .bad
theorem e_isi (T : TyN) {a : Expr} {ra : EM} {tn : Str} {p p2 pos : Pos} (hK : X.K = c.K) (hg : Gl X "isinstance") (hm : X.mg "isinstance" = none) (hgt : Gl X tn) (hmt : X.mg tn = none) (hv : bootBuiltins tn = some (.type T.name)) (hb : bootBuiltins "isinstance" = some (.builtin "isinstance")) (ha : PE X a (tE c W ra))
    (hn : tn ≠ "__name__" := by decide) (hd : (tn == ("__debug__" : Str)) = false := by decide)
    (he : starEach [a, .Name tn p2] X.env = (false, eval a X.env) :: starEach [.Name tn p2] X.env := by rfl) (he2 : starEach [.Name tn p2] X.env = (false, eval (.Name tn p2) X.env) :: starEach [] X.env := by rfl) (hpl : (backTo pos (starEach [.Name tn p2] X.env)).any (·.1) = false := by rfl) :
    PE X (.Call (.Name "isinstance" p) [a, .Name tn p2] [] pos) (tE c W (m1 (isT T) ra)) :=
  (pe_callB call_isi hg hm hb (pa_cons ha (pa_cons (pe_bltn (v := .ty T.name) (u := .type T.name) hgt hmt hv rfl hn hd) pa_nil he2) he) (by decide) (by decide) he hpl).wk fun σ H Q ⟨ι, β, mh, σm, rel, rl, p⟩ => by
    refine (run1 rel rl p).mono fun x H1 ⟨ι1, mh1, v, f1, rel1, rl1, rv, p1⟩ => ?_
    unfold isT at p1
    cases et : tyN v mh1 with
    | none => simp only [et] at p1; exact p1.elim
    | some t =>
      simp only [et] at p1
      exact ⟨x, .ty T.name, .type t.name, .type T.name, subN t T, rfl, .ty _, by rw [hK]; exact tyN_rep et rel1 rv, kit_ty (kit_tab t T), p1 ι1 H1 _ .refl rel1 (rbl _ _ _)⟩

/-! ### list(range(..)) -/
def rgL (a b : Int) : List MV := (List.range (b - a).toNat).map fun i => MV.int (a + (i : Nat))
theorem rg_rep {ι β : List Addr} {H : Hp} (a b : Int) : RepVs c.K ι β H (rgL a b) (rgV a b) := by
  unfold rgL rgV
  generalize (List.range (b - a).toNat) = l
  induction l with
  | nil => exact .nil
  | cons i l ih => exact .cons (rint _ _ _) ih
def mkRg (fin : List MV → MH → R MV) (a b : Int) (h : MH) : R MV := if (inB a && inB b && decide ((b - a).toNat ≤ SZ)) = true then fin (rgL a b) h else .bad
def mRg1 (fin : List MV → MH → R MV) (a : MV) (h : MH) : R MV := match a with
  | .int n => mkRg fin 0 n h
  | _ => .bad
def mRg2 (fin : List MV → MH → R MV) (a b : MV) (h : MH) : R MV := match a, b with
  | .int m, .int n => mkRg fin m n h
  | _, _ => .bad
theorem mkRg_of {fin : List MV → MH → R MV} (hf : FinN c fin) {ι β : List Addr} {H : Hp} {mh : MH} {a b : Int} {Q : VK} {W : Value → Option Addr → Hp → Prop} (rel : Rel c ι β H mh) (p : Post c ι β H (RV c) Q W (mkRg fin a b mh)) : RgOk a b ∧ ∀ q, H q = none → Q (.ref q) (upd H q (.lst (rgV a b))) := by
  unfold mkRg at p
  split at p
  · rename_i h
    simp only [Bool.and_eq_true, decide_eq_true_eq] at h
    obtain ⟨h1, h2⟩ := inB_iff h.1.1
    obtain ⟨h3, h4⟩ := inB_iff h.1.2
    exact ⟨⟨h1, h2, h3, h4, h.2⟩, fun q hq => hf _ _ _ _ _ _ _ _ _ rel (rg_rep a b) hq p⟩
  · exact p.elim
variable {a b e : Expr} {ra rb re : EM} {fin : List MV → MH → R MV} {pos p p2 pos2 : Pos}
theorem e_listRg1 (hf : FinN c fin) (hc : X.calm = true) (hg : Gl X "list") (hm : X.mg "list" = none) (hg2 : Gl X "range") (hm2 : X.mg "range" = none) (ha : PE X a (tE c W ra)) (na : starEach [a] X.env = (false, eval a X.env) :: starEach [] X.env := by rfl)
    (nb : starEach [.Call (.Name "range" p2) [a] [] pos2] X.env = (false, eval (.Call (.Name "range" p2) [a] [] pos2) X.env) :: starEach [] X.env := by rfl) :
    PE X (.Call (.Name "list" p) [.Call (.Name "range" p2) [a] [] pos2] [] pos) (tE c W (m1 (mRg1 fin) ra)) :=
  (pe_listRg hc hg hm (prg_1 hg2 hm2 ha na) nb).wk fun σ H Q ⟨ι, β, mh, σm, rel, rl, p⟩ => by
    refine (run1 rel rl p).mono fun x H1 ⟨ι1, mh1, v, f1, rel1, rl1, rv, p1⟩ => ?_
    cases v with
    | int n => exact ⟨n, ri rv, mkRg_of hf rel1 p1⟩
    | _ => exact p1.elim
theorem e_listRg2 (hf : FinN c fin) (hc : X.calm = true) (hg : Gl X "list") (hm : X.mg "list" = none) (hg2 : Gl X "range") (hm2 : X.mg "range" = none) (ha : PE X a (tE c W ra)) (hb : PE X b (tE c W rb)) (na : starEach [a, b] X.env = (false, eval a X.env) :: starEach [b] X.env := by rfl) (nb : starEach [b] X.env = (false, eval b X.env) :: starEach [] X.env := by rfl)
    (hp : (backTo pos2 (starEach [b] X.env)).any (·.1) = false := by rfl)
    (nc : starEach [.Call (.Name "range" p2) [a, b] [] pos2] X.env = (false, eval (.Call (.Name "range" p2) [a, b] [] pos2) X.env) :: starEach [] X.env := by rfl) :
    PE X (.Call (.Name "list" p) [.Call (.Name "range" p2) [a, b] [] pos2] [] pos) (tE c W (m2 (mRg2 fin) ra rb)) :=
  (pe_listRg hc hg hm (prg_2 hg2 hm2 ha hb na nb hp) nc).wk fun σ H Q ⟨ι, β, mh, σm, rel, rl, p⟩ => by
    refine (run1 rel rl p).mono fun x H1 ⟨ι1, mh1, v, f1, rel1, rl1, rv, p1⟩ => ?_
    refine (run1 rel1 rl1 p1).mono fun y H2 ⟨ι2, mh2, w, f2, rel2, rl2, rw', p2⟩ => ?_
    cases v with
    | int m =>
      cases w with
      | int n => exact ⟨m, n, by rw [ri rv], ri rw', mkRg_of hf rel2 p2⟩
      | _ => exact p2.elim
    | _ => cases w <;> exact p2.elim

/-! ### sorted, of ints -/
def insI (x : Int) : List Int → List Int
  | [] => [x]
  | y :: r => if x ≤ y then x :: y :: r else y :: insI x r
def isortI : List Int → List Int
  | [] => []
  | x :: r => insI x (isortI r)
theorem insI_perm (x : Int) : ∀ l : List Int, (insI x l).Perm (x :: l)
  | [] => .refl _
  | y :: r => by
    unfold insI
    split
    · exact .refl _
    · exact ((insI_perm x r).cons y).trans (.swap _ _ _)
theorem isortI_perm : ∀ l : List Int, (isortI l).Perm l
  | [] => .refl _
  | x :: r => (insI_perm x _).trans ((isortI_perm r).cons x)
theorem insI_sorted (x : Int) : ∀ {l : List Int}, l.Pairwise (· ≤ ·) → (insI x l).Pairwise (· ≤ ·)
  | [], _ => by simp [insI]
  | y :: r, h => by
    unfold insI
    rw [List.pairwise_cons] at h
    split
    · rename_i hx
      refine List.pairwise_cons.mpr ⟨fun z hz => ?_, List.pairwise_cons.mpr h⟩
      rcases List.mem_cons.mp hz with rfl | hz
      · exact hx
      · have := h.1 z hz; omega
    · refine List.pairwise_cons.mpr ⟨fun z hz => ?_, insI_sorted x h.2⟩
      rcases List.mem_cons.mp ((insI_perm x r).mem_iff.mp hz) with rfl | hz
      · omega
      · exact h.1 z hz
theorem isortI_sorted : ∀ l : List Int, (isortI l).Pairwise (· ≤ ·)
  | [] => .nil
  | x :: r => insI_sorted x (isortI_sorted r)
theorem sorted_unique : ∀ {l r : List Int}, l.Perm r → l.Pairwise (· ≤ ·) → r.Pairwise (· ≤ ·) → l = r
  | [], r, p, _, _ => by have := p.length_eq; cases r with | nil => rfl | cons _ _ => simp at this
  | x :: l, [], p, _, _ => by have := p.length_eq; simp at this
  | x :: l, y :: r, p, h1, h2 => by
    rw [List.pairwise_cons] at h1 h2
    have e : x = y := by
      have a : x ∈ y :: r := p.mem_iff.mp List.mem_cons_self
      have b : y ∈ x :: l := p.mem_iff.mpr List.mem_cons_self
      rcases List.mem_cons.mp a with e | a
      · exact e
      · rcases List.mem_cons.mp b with e | b
        · exact e.symm
        · have := h1.1 y b; have := h2.1 x a; omega
    subst e
    rw [sorted_unique (p.cons_inv) h1.2 h2.2]
def ints? : List MV → Option (List Int)
  | [] => some []
  | .int i :: r => match ints? r with
    | some l => some (i :: l)
    | none => none
  | _ :: _ => none
theorem ints?_eq : ∀ {l : List MV} {ns : List Int}, ints? l = some ns → l = ns.map .int
  | [], ns, e => by simp only [ints?, Option.some.injEq] at e; subst e; rfl
  | m :: r, ns, e => by
    cases m with
    | int i =>
      simp only [ints?] at e
      cases h : ints? r with
      | none => rw [h] at e; cases e
      | some l => rw [h] at e; cases e; rw [ints?_eq h]; rfl
    | _ => cases e
@[simp] theorem ints?_map (ns : List Int) : ints? (ns.map MV.int) = some ns := by
  induction ns with
  | nil => rfl
  | cons n ns ih => simp [ints?, ih]
def mSortI (fin : List MV → MH → R MV) (as : List MV) (h : MH) : R MV := match as with
  | [a] => match asS a h with
    | some l => match a with
      | .tup _ => .bad
      | _ => match ints? l with
        | some ns => fin ((isortI ns).map .int) h
        | none => .bad
    | none => .bad
  | _ => .bad
theorem p_sortI (hf : FinN c fin) : PN c (rSortedI c.K) (mSortI fin) := fun ι β H mh as xs Q W rel ra p => by
  unfold mSortI at p
  split at p
  · rename_i a
    obtain ⟨v, rfl, q⟩ := Vs1 ra
    cases es : asS a mh with
    | none => simp only [es] at p; exact p.elim
    | some l =>
      simp only [es] at p
      have key : Post c ι β H (RV c) Q W (match ints? l with | some ns => fin ((isortI ns).map .int) mh | none => .bad) → (∃ b vs, v = .ref b ∧ SqL c.K H b vs ∧ RepVs c.K ι β H l vs) → rSortedI c.K [v] H Q := fun pk ⟨b, vs, e, sq, r⟩ => by
        clear p
        cases ei : ints? l with
        | none => simp only [ei] at pk; exact pk.elim
        | some ns =>
          simp only [ei] at pk
          have := ints?_eq ei
          subst this
          have e2 := r.of_ints
          subst e2
          refine ⟨b, ns, by rw [e], sq, fun ns' z hp hs hz => ?_⟩
          have e3 : ns' = isortI ns := sorted_unique (hp.trans (isortI_perm ns).symm) hs (isortI_sorted ns)
          subst e3
          exact hf _ _ _ _ _ _ _ _ _ rel .ints hz pk
      cases a with
      | tup _ => exact p.elim
      | lv l' =>
        obtain ⟨b, vs, e1, sq, r⟩ := asL_rep (v := .lv l') (l := l) (by cases es; rfl) rel q
        exact key p ⟨b, vs, e1, .inl (.inl sq), r⟩
      | fz l' =>
        obtain ⟨b, vs, rfl, q2, r⟩ := q.fz_iff
        cases es
        exact key p ⟨b, vs, rfl, q2, r⟩
      | ref n =>
        obtain ⟨b, vs, e1, sq, r⟩ := asL_rep (v := .ref n) (l := l) (by unfold asS at es; unfold asL; exact es) rel q
        exact key p ⟨b, vs, e1, .inl (.inl sq), r⟩
      | _ => cases es
  · exact p.elim

/-! ### methods of lists -/
def setH (h : MH) (n : Nat) (o : MO) : MH := h.set n o
def mMeth (f : MV → List MV → MH → R MV) (ro : EM) (rs : AM) : EM := fun σ h => bindR (ro σ h) fun a h1 => match asL a h1 with
  | some _ => bindR (rs σ h1) fun as h2 => f a as h2
  | none => .bad
def PMt (c : C) (r : V → List V → Hp → VK → Prop) (f : MV → List MV → MH → R MV) : Prop := ∀ ι β H mh a as x xs Q W, Rel c ι β H mh → RepV c.K ι β H a x → RepVs c.K ι β H as xs → Post c ι β H (RV c) Q W (f a as mh) → r x xs H Q
theorem e_methL {id name : String} {r : V → List V → Hp → VK → Prop} {f : MV → List MV → MH → R MV} {o : Expr} {ro : EM} {es : List Expr} {rs : AM} {apos cpos : Pos} (hK : X.K = c.K) (slot : Slot "list" name id) (hty : typeOf (.builtin id) = pure (.type "method_descriptor")) (hm : MtR X id r) (hp : PMt c r f) (ho : PE X o (tE c W ro)) (ha : PA X (e :: es) (tA c W rs))
    (hbase : attributeBase o name X.env (eval o X.env) = eval o X.env := by rfl)
    (hfew : ((backTo cpos (starEach (e :: es) X.env)).all (fun x => !x.1) && (backToKw cpos (keywordEach [] X.env)).all (fun x => x.1.isSome)
      && decide ((e :: es).length + ([] : List Keyword).length + (if ([] : List Keyword).isEmpty then 0 else 1) < 30)) = true := by rfl)
    (hline : (apos.endLine == cpos.line) = true := by rfl) (hs : starEach (e :: es) X.env = (false, eval e X.env) :: starEach es X.env := by rfl) (hplain : (backTo cpos (starEach es X.env)).any (·.1) = false := by rfl) :
    PE X (.Call (.Attribute o name apos) (e :: es) [] cpos) (tE c W (mMeth f ro rs)) :=
  (pe_bm PySem.F.plainAttrs_list slot hty hm ho ha hbase hfew hline hs hplain).wk fun σ H Q ⟨ι, β, mh, σm, rel, rl, p⟩ => by
    refine (run1 rel rl p).mono fun x H1 ⟨ι1, mh1, v, f1, rel1, rl1, rv, p1⟩ => ?_
    cases el : asL v mh1 with
    | none => simp only [el] at p1; exact p1.elim
    | some l =>
      simp only [el] at p1
      obtain ⟨b, vs, rfl, sq, r⟩ := asL_rep el rel1 rv
      refine ⟨.inl ⟨rfl, vs, .inl (.inl sq)⟩, ?_⟩
      exact (run1 rel1 rl1 p1).mono fun xs H2 ⟨ι2, mh2, as, f2, rel2, rl2, ra, p2⟩ => hp _ _ _ _ _ _ _ _ _ _ rel2 (rv.mono f2) ra p2
def mAppend (a : MV) (as : List MV) (h : MH) : R MV := match a, as with
  | .ref n, [y] => match h[n]? with
    | some (.lst l) => if l.length < SZ then .ok .non (setH h n (.lst (l ++ [y]))) else .bad
    | _ => .bad
  | _, _ => .bad
theorem p_append : PMt c rAppend mAppend := fun ι β H mh a as x xs Q W rel ra ras p => by
  unfold mAppend at p
  split at p
  · rename_i n y
    cases eo : mh[n]? with
    | none => simp only [eo] at p; exact p.elim
    | some o =>
      simp only [eo] at p
      cases o with
      | lst l =>
        simp only at p
        split at p
        · rename_i hl
          unfold RepV at ra
          obtain ⟨b, rfl, ea⟩ := ra
          obtain ⟨o2, e2, ro⟩ := rel.at ea
          rw [eo] at e2; cases e2
          obtain ⟨vs, hv, r⟩ := ro
          obtain ⟨w, rfl, qw⟩ := Vs1 ras
          refine ⟨b, vs, w, rfl, rfl, hv, by rw [← r.length, sz_eq]; exact hl, ?_⟩
          have nf : ∀ o u, H b ≠ some (.frz o u) := fun o u z => by rw [hv] at z; cases z
          have f := Fr.put (o := .lst (vs ++ [w])) ea nf
          exact p ι _ _ f (rel.put ea nf ⟨_, upd_same, (r.append (.cons qw .nil)).mono f⟩) (rnon _ _ _)
        · exact p.elim
      | dct _ => exact p.elim
      | fdc _ => exact p.elim
      | ins _ _ => exact p.elim
  · exact p.elim

/-! ### stores into lists -/
def sSetIx (rv ro ri : EM) : SM := fun σ h => bindS (rv σ h) σ fun v h1 => bindS (ro σ h1) σ fun o h2 => bindS (ri σ h2) σ fun i h3 => match o, i with
  | .ref n, .int k => match h3[n]? with
    | some (.lst l) => match ixN l.length k with
      | some j => .nx σ (setH h3 n (.lst (l.set j v)))
      | none => .bad
    | _ => .bad
  | _, _ => .bad
theorem s_setL {o i : Expr} {rv ro ri : EM} (he : PE X e (tE c W rv)) (ho : PE X o (tE c W ro)) (hi : PE X i (tE c W ri))
    (ha : ∀ v, assign (.Subscript o i p) X.env v = (do
      let ov ← holding [v] (eval o X.env)
      let iv ← holding [v, ov] (eval i X.env)
      standAt p
      holding [v, ov, iv] (setItem ov iv v)
      release [v, ov, iv] []) := by intro _; rfl)
    (hs : swapsWithSole [.Subscript o i p] e pos.line X.env = pure false := by rfl) (hw : swappedStores [.Subscript o i p] e X.env = pure none := by rfl)
    (h1 : (assignEach [.Subscript o i p] X.env).map (·.2) = [assign (.Subscript o i p) X.env] := by rfl) : PS X (.Assign [.Subscript o i p] e pos) (tS c W (sSetIx rv ro ri)) :=
  (ps_asg he (pg_sub ho hi set_list ha) hs hw h1).wk fun D σ H ⟨ι, β, mh, σm, rel, rl, q⟩ => by
    refine (run1S rel rl q).mono fun v H1 ⟨ι1, mh1, m, f1, rel1, rl1, rm, p1⟩ => ?_
    refine (run1S rel1 rl1 p1).mono fun x H2 ⟨ι2, mh2, mo, f2, rel2, rl2, rmo, p2⟩ => ?_
    refine (run1S rel2 rl2 p2).mono fun y H3 ⟨ι3, mh3, mi, f3, rel3, rl3, rmi, p3⟩ => ?_
    cases mo with
    | ref n =>
      cases mi with
      | int k =>
        simp only at p3
        cases eo : mh3[n]? with
        | none => simp only [eo] at p3; exact p3.elim
        | some ob =>
          simp only [eo] at p3
          cases ob with
          | lst l =>
            simp only at p3
            cases ej : ixN l.length k with
            | none => simp only [ej] at p3; exact p3.elim
            | some j =>
              simp only [ej] at p3
              have rmo' := rmo.mono f3
              unfold RepV at rmo'
              obtain ⟨b, rfl, ea⟩ := rmo'
              obtain ⟨o2, e2, ro⟩ := rel3.at ea
              rw [eo] at e2; cases e2
              obtain ⟨vs, hv, r⟩ := ro
              refine ⟨b, vs, k, j, rfl, MP.ri rmi, hv, by rw [← r.length]; exact ej, ?_⟩
              have nf : ∀ o u, H3 b ≠ some (.frz o u) := fun o u z => by rw [hv] at z; cases z
              have f := Fr.put (o := .lst (vs.set j v)) ea nf
              exact p3 ι3 _ _ f (rel3.put ea nf ⟨_, upd_same, (RepVs.set ((rm.mono f2).mono f3) j r).mono f⟩) (rl3.mono f)
          | dct _ => exact p3.elim
          | fdc _ => exact p3.elim
          | ins _ _ => exact p3.elim
      | _ => exact p3.elim
    | _ => cases mi <;> exact p3.elim
end
end MP

/-! Mirror layer, part 8: truth; the law's end. -/
namespace MP
open PySem PySem.Spec PyProof.Rows L2
section
variable {c : C} {X : Cx} {W : WX} {a : Expr} {ra : EM}
@[simp] def isTru (v : MV) (h : MH) : R Bool := match v with
  | .bl b => .ok b h
  | .int i => .ok (i != 0) h
  | .non => .ok false h
  | _ => .bad
@[simp] def mTru (r : EM) : TM := fun σ h => bindR (r σ h) isTru
theorem t_tru (ha : PE X a (tE c W ra)) (he : ∀ whole, isTrue a X.env whole = (do let v ← whole; standAt a.pos; holding [v] (truthy v)) := by intro _; rfl) : PT X a (tT c W (mTru ra)) :=
  (pt_truth ha he).wk fun σ H Q ⟨ι, β, mh, σm, rel, rl, p⟩ => by
    refine (run1 rel rl p).mono fun x H1 ⟨ι1, mh1, v, f1, rel1, rl1, rv, p1⟩ => ?_
    cases v with
    | bl b => exact ⟨b, by rw [rb rv]; rfl, p1 ι1 H1 b .refl rel1 rfl⟩
    | int i => exact ⟨_, by rw [ri rv]; rfl, p1 ι1 H1 _ .refl rel1 rfl⟩
    | non => exact ⟨_, by rw [rn rv]; rfl, p1 ι1 H1 _ .refl rel1 rfl⟩
    | _ => exact p1.elim
end
/-- the law's promise -/
def spLaw (K : PySem.W.Frag) : Sp := fun vs H Q _ => ∃ (a : Addr) (ns : List Int), vs = [.ref a] ∧ ns.length ≤ 63 ∧ Only H ∧ SqL K H a (ns.map V.int) ∧ ∀ H', Q (.bl true) H'
/-- from the mirror to the law's promise -/
theorem law_end {P : Program} {w : World} {mg : Str → Option Value} {base : Heap} {CX : CXT} {k : Nat} {f : Addr} {fd : FuncData} {ps : List Str} {c : C} {m : List MV → MH → R MV} (F : FnOk P w c.K mg base CX k f fd ps (spM c 1 m)) (h : ∀ ns : List Int, ns.length ≤ 63 → ∃ h', m [.fz (ns.map .int)] [] = .ok (.bl true) h') : FnOk P w c.K mg base CX k f fd ps (spLaw c.K) := by
  refine F.imp fun vs H Q E hs => ?_
  obtain ⟨a, ns, rfl, hl, hO, hS, q⟩ := hs
  obtain ⟨h', e⟩ := h ns hl
  refine ⟨rfl, [], [], [], [.fz (ns.map .int)], ⟨rfl, .nil, fun b z => (by simp at z), fun n o z => (by simp at z)⟩, .cons ?_ .nil, ?_⟩
  · unfold RepV
    refine ⟨a, _, rfl, ?_, .ints⟩
    rcases hS with (hS | ⟨o, hS⟩) | hS
    · rcases hO a with z | ⟨o, xs, z⟩
      · rw [z] at hS; cases hS
      · rw [z] at hS; cases hS
    · exact .inl ⟨⟨o, hS⟩, by simp, by simp⟩
    · exact .inr hS
  · rw [e]
    intro ι' H' u f r rv
    rw [rb rv]
    exact q H'
theorem walkM {l : PySem.W.OpenLaw} {q : Program} {loose : List Str} {XP : (Str → Option Value) → Heap → Prop} {YP : World → Heap → Prop} {d : DefRec} {K : Params → PySem.W.Frag} {k : Nat} (hn : l.most = some 63) (hdf : d.params.defaults = []) (hr : Room k callerA)
    (hY : ∀ (w : World) (h : Heap), YP w h → (K w.params).In h)
    (F : ∀ (w : World) (mg : Str → Option Value) (fa : Addr) (h : Heap), (K w.params).In h → h.Ns mainGlobals mg → mg d.name = some (.ref fa) →
      ∃ fd : FuncData, (∀ (s : Shared) (u : Value), BindsTo s fd ⟨[u], []⟩ [("_law_script", u)]) ∧ ∀ base : Heap, (K w.params).In base → base.Ns mainGlobals mg → FnOk l.prog w (K w.params) mg base (L2.CX l.prog w) k fa fd ["_law_script"] (spLaw (K w.params))) :
    PySem.W.WalkO q loose XP YP l.row.toRowW d [] (fun f vs => PySem.call f vs) :=
  L2.walk_of (n := 63) (k := k) (x := "_law_script") (CX := fun w => L2.CX l.prog w) (sp := fun w => spLaw (K w.params)) hn (by decide) hdf hr hY F (fun _ _ a ns hl hO hS => ⟨a, ns, rfl, hl, hO, hS, fun _ => rfl⟩) (fun _ _ _ _ _ h => by
    obtain ⟨_, _, _, _, _, _, _, _, _, _, _, _, z⟩ := h
    exact z.elim)
end MP

/-! Mirror layer, part 8x: dicts; subscripts and stores of lists and dicts; *; ==; reversed slices; a, b = x, y. -/
namespace MP
open PySem PySem.Spec PyProof.Rows L2

/-! ### dicts -/
def lookKV : List (MV × MV) → MV → Option MV
  | [], _ => none
  | (k, m) :: r, y => if beqV k y = true then some m else lookKV r y
def putKV : List (MV × MV) → MV → MV → List (MV × MV)
  | [], y, v => [(y, v)]
  | (k, m) :: r, y, v => if beqV k y = true then (k, v) :: r else (k, m) :: putKV r y v
def dropKV : List (MV × MV) → MV → List (MV × MV)
  | [], _ => []
  | (k, m) :: r, y => if beqV k y = true then r else (k, m) :: dropKV r y
theorem mkey_beq {k y : MV} {a b : Key} (h1 : mkey k = some a) (h2 : mkey y = some b) : beqV k y = decide (a = b) := by
  cases k <;> cases y <;> simp only [mkey, Option.some.injEq] at h1 h2 <;> try cases h1
  all_goals try cases h2
  all_goals simp [beqV]
section
variable {c : C} {X : Cx} {W : WX}
theorem look_rep {ι β : List Addr} {H : Hp} {y : MV} {b : Key} (hy : mkey y = some b) : ∀ {kvs : List (MV × MV)} {l : List (Key × V)}, RepKV c.K ι β H kvs l →
    (∀ m, lookKV kvs y = some m → ∃ v, valV l b = some v ∧ RepV c.K ι β H m v) ∧ (lookKV kvs y = none → valV l b = none)
  | [], l, h => by
    have e : l = [] := h
    subst e
    exact ⟨fun m e => (by cases e), fun _ => rfl⟩
  | (k, m) :: r, l, h => by
    obtain ⟨k', v, r', rfl, ek, q, t⟩ := h
    obtain ⟨i1, i2⟩ := look_rep hy t
    have eb := mkey_beq ek hy
    unfold lookKV
    rw [eb]
    by_cases z : k' = b
    · rw [if_pos (decide_eq_true z)]
      exact ⟨fun m' e => (by cases e; exact ⟨v, valV_pos z, q⟩), fun e => (by cases e)⟩
    · rw [if_neg (by simp [z])]
      exact ⟨fun m' e => (by rw [valV_neg z]; exact i1 m' e), fun e => (by rw [valV_neg z]; exact i2 e)⟩
/-- no key twice -/
def nodK : List (MV × MV) → Bool
  | [] => true
  | (k, _) :: r => (lookKV r k).isNone && nodK r
theorem put_repA {ι β : List Addr} {H : Hp} {y : MV} {b : Key} {mv : MV} {v : V} (hy : mkey y = some b) (hv : RepV c.K ι β H mv v) : ∀ {kvs : List (MV × MV)} {l : List (Key × V)}, RepKV c.K ι β H kvs l → nodK kvs = true → RepKV c.K ι β H (putKV kvs y mv) (if (l.any fun kv => decide (kv.1 = b)) = true then l.map (fun kv => if kv.1 = b then (kv.1, v) else kv) else l ++ [(b, v)])
  | [], l, h, _ => by
    have e : l = [] := h
    subst e
    exact ⟨b, v, [], rfl, hy, hv, rfl⟩
  | (k, m) :: r, l, h, hn => by
    obtain ⟨k', w, r', rfl, ek, q, t⟩ := h
    unfold nodK at hn
    rw [Bool.and_eq_true] at hn
    have eb := mkey_beq ek hy
    unfold putKV
    rw [eb]
    by_cases z : k' = b
    · subst z
      rw [if_pos (by simp), if_pos (by simp)]
      refine ⟨k', v, r', ?_, ek, hv, t⟩
      have hno : valV r' k' = none := (look_rep ek t).2 (by simpa using hn.1)
      have hx : ∀ p ∈ r', ¬ p.1 = k' := fun p hp e => by
        have := valV_any k' r'
        rw [hno] at this
        simp only [Option.isSome_none, List.any_eq_false, decide_eq_true_eq] at this
        exact this p hp e
      simp only [List.map_cons, if_true]
      congr 1
      have : ∀ (s : List (Key × V)), (∀ p ∈ s, ¬ p.1 = k') → s.map (fun kv => if kv.1 = k' then (kv.1, v) else kv) = s := by
        intro s
        induction s with
        | nil => intro _; rfl
        | cons p s ih =>
          intro h
          rw [List.map_cons, if_neg (h p List.mem_cons_self), ih fun q hq => h q (List.mem_cons_of_mem _ hq)]
      exact this r' hx
    · rw [if_neg (by simp [z])]
      have ih := put_repA hy hv t hn.2
      by_cases hany : (r'.any fun kv => decide (kv.1 = b)) = true
      · rw [if_pos hany] at ih
        rw [if_pos (by simp only [List.any_cons, hany, Bool.or_true])]
        simp only [List.map_cons, if_neg z]
        exact ⟨k', w, _, rfl, ek, q, ih⟩
      · rw [if_neg hany] at ih
        rw [if_neg (by simp only [List.any_cons, Bool.or_eq_true, decide_eq_true_eq]; rintro (h | h); exact z h; exact hany h)]
        exact ⟨k', w, _, rfl, ek, q, ih⟩
theorem put_rep {ι β : List Addr} {H : Hp} {y : MV} {b : Key} {mv : MV} {v : V} (hy : mkey y = some b) (hv : RepV c.K ι β H mv v) {kvs : List (MV × MV)} {l : List (Key × V)} (h : RepKV c.K ι β H kvs l) (hn : nodK kvs = true) : RepKV c.K ι β H (putKV kvs y mv) (putK l b v) := by
  unfold putK
  exact put_repA hy hv h hn
theorem RepKV.length {ι β : List Addr} {H : Hp} : ∀ {kvs : List (MV × MV)} {l : List (Key × V)}, RepKV c.K ι β H kvs l → kvs.length = l.length
  | [], l, h => by have e : l = [] := h; subst e; rfl
  | (k, m) :: r, l, h => by
    obtain ⟨k', v, r', rfl, ek, q, t⟩ := h
    simp [RepKV.length t]
/-- a dict, as it may be read -/
def asD (v : MV) (h : MH) : Option (List (MV × MV)) := match v with
  | .dv ks ws => some (ks.zip ws)
  | .ref n => match h[n]? with
    | some (.dct l) => some l
    | some (.fdc l) => some l
    | _ => none
  | _ => none
theorem asD_rep {v : MV} {h : MH} {kvs : List (MV × MV)} {ι β : List Addr} {H : Hp} {x : V} (e : asD v h = some kvs) (rel : Rel c ι β H h) (rv : RepV c.K ι β H v x) : ∃ a l o, x = .ref a ∧ H a = some o ∧ IsDV o l ∧ RepKV c.K ι β H kvs l := by
  cases v with
  | dv ks ws =>
    cases e
    unfold RepV at rv
    obtain ⟨a, l, rfl, ⟨⟨o, q, iv⟩, _⟩, r1, r2⟩ := rv
    exact ⟨a, l, o, rfl, q, iv, RepKV.zip r1 r2⟩
  | ref n =>
    unfold RepV at rv
    obtain ⟨a, rfl, ea⟩ := rv
    obtain ⟨o, eo, ro⟩ := rel.at ea
    unfold asD at e
    simp only [eo] at e
    cases o with
    | lst l' => cases e
    | dct l' => cases e; obtain ⟨l, q, r⟩ := ro; exact ⟨a, l, _, rfl, q, .inl rfl, r⟩
    | fdc l' => cases e; obtain ⟨od, l, q, r⟩ := ro; exact ⟨a, l, _, rfl, q, .inr ⟨od, rfl⟩, r⟩
    | ins _ _ => cases e
  | _ => cases e
theorem dget_of {H : Hp} {a : Addr} {o : HO} {l : List (Key × V)} (e : H a = some o) (iv : IsDV o l) (k : Key) : DGet H a (kV k) (valV l k) := by
  rcases iv with rfl | ⟨od, rfl⟩
  · exact .inl ⟨l, k, .inl e, rfl, rfl⟩
  · exact .inl ⟨l, k, .inr ⟨od, e⟩, rfl, rfl⟩
theorem mkey_rep {ι β : List Addr} {H : Hp} {m : MV} {k : Key} {v : V} (e : mkey m = some k) (r : RepV c.K ι β H m v) : v = kV k := by
  cases m with
  | int i => cases e; rw [ri r]; rfl
  | str z => cases e; rw [rs r]; rfl
  | _ => cases e

/-! ### x[i] of lists, tuples, texts, dicts -/
theorem PE.or {e : Expr} {t t' : TE} (h : PE X e t) (h' : PE X e t') : PE X e (fun σ H Q => t σ H Q ∨ t' σ H Q) := ⟨fun pins s σ H Q I q => q.elim (h.run pins s σ H Q I) (h'.run pins s σ H Q I)⟩
theorem PS.or {st : Stmt} {t t' : TS} (h : PS X st t) (h' : PS X st t') : PS X st (fun D σ H => t D σ H ∨ t' D σ H) := ⟨fun pins s σ H D I q => q.elim (h.run pins s σ H D I) (h'.run pins s σ H D I)⟩
def mDGet (a b : MV) (h : MH) : R MV := match asD a h with
  | some kvs => match mkey b with
    | some _ => match lookKV kvs b with
      | some v => .ok v h
      | none => .bad
    | none => .bad
  | none => .bad
def isDk (v : MV) (h : MH) : Bool := (asD v h).isSome
def mIxA (a b : MV) (h : MH) : R MV := if isDk a h = true then mDGet a b h else mIx a b h
variable {a b : Expr} {ra rb : EM} {pos : Pos}
def rDGet : R2 := fun x y H Q => ∃ a v, x = .ref a ∧ DGet H a y (some v) ∧ Q v H
theorem p_dget : P2 c rDGet mDGet := fun ι β H mh a b x y Q W rel ra rb p => by
  unfold mDGet at p
  cases ed : asD a mh with
  | none => simp only [ed] at p; exact p.elim
  | some kvs =>
    simp only [ed] at p
    cases ek : mkey b with
    | none => simp only [ek] at p; exact p.elim
    | some k =>
      simp only [ek] at p
      cases el : lookKV kvs b with
      | none => simp only [el] at p; exact p.elim
      | some m =>
        simp only [el] at p
        obtain ⟨q, l, o, rfl, eo, iv, rk⟩ := asD_rep ed rel ra
        obtain ⟨v, ev, rv⟩ := (look_rep ek rk).1 m el
        rw [mkey_rep ek rb]
        exact ⟨q, v, rfl, by rw [← ev]; exact dget_of eo iv k, p ι H v .refl rel rv⟩
theorem e_ixA (hu : X.A.units + 1 < cLine) (hK : X.K = c.K) (ha : PE X a (tE c W ra)) (hb : PE X b (tE c W rb)) (hs : PlainIx b) : PE X (.Subscript a b pos) (tE c W (m2 mIxA ra rb)) :=
  (PE.or (t := tOp rDGet (tE c W ra) (tE c W rb)) (pe_dget hu ha hb hs) (pe_ix ix_seq ha hb hs)).wk fun σ H Q ⟨ι, β, mh, σm, rel, rl, p⟩ => by
    have key : ∃ d : Bool, m2 mIxA ra rb σm mh = if d = true then m2 mDGet ra rb σm mh else m2 mIx ra rb σm mh := by
      unfold m2
      cases ea : ra σm mh with
      | bad => exact ⟨true, rfl⟩
      | ex x h1 => exact ⟨true, rfl⟩
      | ok va h1 =>
        simp only [bindR]
        cases eb : rb σm h1 with
        | bad => exact ⟨true, rfl⟩
        | ex x h1 => exact ⟨true, rfl⟩
        | ok vb h2 => exact ⟨isDk va h2, by simp only [mIxA]⟩
    obtain ⟨d, e⟩ := key
    rw [e] at p
    cases d with
    | true => exact .inl (m2_of p_dget ⟨ι, β, mh, σm, rel, rl, p⟩)
    | false => rw [hK]; exact .inr (m2_of p_ix ⟨ι, β, mh, σm, rel, rl, p⟩)

/-! ### x[i] = v -/
def sSetDx (rv ro ri : EM) : SM := fun σ h => bindS (rv σ h) σ fun v h1 => bindS (ro σ h1) σ fun o h2 => bindS (ri σ h2) σ fun i h3 => match o with
  | .ref n => match h3[n]? with
    | some (.dct kvs) => match mkey i with
      | some _ => if (decide (kvs.length < SZ) && nodK kvs) = true then .nx σ (setH h3 n (.dct (putKV kvs i v))) else .bad
      | none => .bad
    | _ => .bad
  | _ => .bad
def isDct (v : MV) (h : MH) : Bool := match v with
  | .ref n => match h[n]? with
    | some (.dct _) => true
    | _ => false
  | _ => false
def sSetA (rv ro ri : EM) : SM := fun σ h => bindS (rv σ h) σ fun v h1 => bindS (ro σ h1) σ fun o h2 => bindS (ri σ h2) σ fun i h3 =>
  if isDct o h3 = true then sSetDx (fun _ _ => .ok v h3) (fun _ _ => .ok o h3) (fun _ _ => .ok i h3) σ h3 else sSetIx (fun _ _ => .ok v h3) (fun _ _ => .ok o h3) (fun _ _ => .ok i h3) σ h3
theorem s_setD {o i e : Expr} {rv ro ri : EM} {p : Pos} (hu : X.A.units + 1 < cLine) (he : PE X e (tE c W rv)) (ho : PE X o (tE c W ro)) (hi : PE X i (tE c W ri))
    (hs : swapsWith e (some (.Subscript o i p)) pos.line X.env = pure false := by rfl) : PS X (.Assign [.Subscript o i p] e pos) (tS c W (sSetDx rv ro ri)) :=
  (ps_dput hu ho hi he hs).wk fun D σ H ⟨ι, β, mh, σm, rel, rl, q⟩ => by
    refine (run1S rel rl q).mono fun v H1 ⟨ι1, mh1, m, f1, rel1, rl1, rm, p1⟩ => ?_
    refine (run1S rel1 rl1 p1).mono fun x H2 ⟨ι2, mh2, mo, f2, rel2, rl2, rmo, p2⟩ => ?_
    refine (run1S rel2 rl2 p2).mono fun y H3 ⟨ι3, mh3, mi, f3, rel3, rl3, rmi, p3⟩ => ?_
    cases mo with
    | ref n =>
      simp only at p3
      cases eo : mh3[n]? with
      | none => simp only [eo] at p3; exact p3.elim
      | some ob =>
        simp only [eo] at p3
        cases ob with
        | dct kvs =>
          simp only at p3
          cases ek : mkey mi with
          | none => simp only [ek] at p3; exact p3.elim
          | some k =>
            simp only [ek] at p3
            split at p3
            · rename_i hh
              simp only [Bool.and_eq_true, decide_eq_true_eq] at hh
              have rmo' := rmo.mono f3
              unfold RepV at rmo'
              obtain ⟨b, rfl, ea⟩ := rmo'
              obtain ⟨o2, e2, ro⟩ := rel3.at ea
              rw [eo] at e2; cases e2
              obtain ⟨l, hv, r⟩ := ro
              rw [mkey_rep ek rmi]
              refine ⟨b, _, rfl, DPut.k hv (by rw [← r.length, sz_eq]; exact hh.1), ?_⟩
              have nf : ∀ o u, H3 b ≠ some (.frz o u) := fun o u z => by rw [hv] at z; cases z
              have f := Fr.put (o := .dK (putK l k v)) ea nf
              exact p3 ι3 _ _ f (rel3.put ea nf ⟨_, upd_same, (put_rep ek ((rm.mono f2).mono f3) r hh.2).move f.mov⟩) (rl3.mono f)
            · exact p3.elim
        | lst _ => exact p3.elim
        | fdc _ => exact p3.elim
        | ins _ _ => exact p3.elim
    | _ => exact p3.elim
theorem s_setA {o i e : Expr} {rv ro ri : EM} {p : Pos} (hu : X.A.units + 1 < cLine) (he : PE X e (tE c W rv)) (ho : PE X o (tE c W ro)) (hi : PE X i (tE c W ri))
    (ha : ∀ v, assign (.Subscript o i p) X.env v = (do
      let ov ← holding [v] (eval o X.env)
      let iv ← holding [v, ov] (eval i X.env)
      standAt p
      holding [v, ov, iv] (setItem ov iv v)
      release [v, ov, iv] []) := by intro _; rfl)
    (hs' : swapsWith e (some (.Subscript o i p)) pos.line X.env = pure false := by rfl)
    (hs : swapsWithSole [.Subscript o i p] e pos.line X.env = pure false := by rfl) (hw : swappedStores [.Subscript o i p] e X.env = pure none := by rfl)
    (h1 : (assignEach [.Subscript o i p] X.env).map (·.2) = [assign (.Subscript o i p) X.env] := by rfl) : PS X (.Assign [.Subscript o i p] e pos) (tS c W (sSetA rv ro ri)) :=
  (PS.or (s_setD hu he ho hi hs') (s_setL he ho hi ha hs hw h1)).wk fun D σ H ⟨ι, β, mh, σm, rel, rl, q⟩ => by
    have key : ∃ d : Bool, sSetA rv ro ri σm mh = if d = true then sSetDx rv ro ri σm mh else sSetIx rv ro ri σm mh := by
      unfold sSetA
      cases e1 : rv σm mh with
      | bad => exact ⟨true, by simp [sSetDx, e1, bindS]⟩
      | ex x h1 => exact ⟨true, by simp [sSetDx, e1, bindS]⟩
      | ok v h1 =>
        simp only [bindS]
        cases e2 : ro σm h1 with
        | bad => exact ⟨true, by simp [sSetDx, e1, e2, bindS]⟩
        | ex x h1 => exact ⟨true, by simp [sSetDx, e1, e2, bindS]⟩
        | ok o h2 =>
          simp only
          cases e3 : ri σm h2 with
          | bad => exact ⟨true, by simp [sSetDx, e1, e2, e3, bindS]⟩
          | ex x h1 => exact ⟨true, by simp [sSetDx, e1, e2, e3, bindS]⟩
          | ok i h3 =>
            simp only
            refine ⟨isDct o h3, ?_⟩
            cases isDct o h3 with
            | true => simp [sSetDx, e1, e2, e3, bindS]
            | false => simp [sSetIx, e1, e2, e3, bindS]
    obtain ⟨d, e⟩ := key
    rw [e] at q
    cases d with
    | true => exact .inl ⟨ι, β, mh, σm, rel, rl, q⟩
    | false => exact .inr ⟨ι, β, mh, σm, rel, rl, q⟩

/-! ### * -/
def mMul (fin : List MV → MH → R MV) (a b : MV) (h : MH) : R MV := match a, b with
  | .int i, .int j => mMulI (.int i) (.int j) h
  | a, .int k => match asL a h with
    | some l => if (inB k && decide (l.length * k.toNat ≤ SZ)) = true then fin (List.replicate k.toNat l).flatten h else .bad
    | none => .bad
  | _, _ => .bad
def rMulA : R2 := fun x y H Q => rI CMul (fun i j => .int (i * j)) x y H Q ∨ rRep x y H Q
theorem op_mulA : OpR X (binaryOp .Mult) rMulA := op_mul.or op_rep
theorem p_mulA {fin : List MV → MH → R MV} (hf : FinN c fin) : P2 c rMulA (mMul fin) := fun ι β H mh a b x y Q W rel ra rb p => by
  have lists : ∀ k, b = .int k → Post c ι β H (RV c) Q W (match asL a mh with | some l => if (inB k && decide (l.length * k.toNat ≤ SZ)) = true then fin (List.replicate k.toNat l).flatten mh else .bad | none => .bad) → rMulA x y H Q := fun k eb pk => by
    clear p
    subst eb
    cases el : asL a mh with
    | none => rw [el] at pk; exact pk.elim
    | some l =>
      rw [el] at pk
      dsimp only at pk
      split at pk
      · rename_i hh
        simp only [Bool.and_eq_true, decide_eq_true_eq] at hh
        obtain ⟨a1, v1, rfl, q1, r1⟩ := asL_rep el rel ra
        obtain ⟨h1, h2⟩ := inB_iff hh.1
        exact .inr ⟨a1, k, v1, rfl, ri rb, q1, by omega, by omega, by rw [← r1.length, sz_eq]; exact hh.2, fun z hz => hf _ _ _ _ _ _ _ _ _ rel (r1.flat _) hz pk⟩
      · exact pk.elim
  cases b with
  | int k =>
    cases a with
    | int i => exact .inl (p_mul ι β H mh _ _ x y Q W rel ra rb p)
    | _ => exact lists k rfl p
  | _ => cases a <;> exact p.elim

/-! ### == of data; sorted -/
theorem op_eqA (hu : X.A.units + 64 < cLine) : OpR X (compareOp .Eq) (rEqD X.K) := op_eqD hu
theorem op_neA (hu : X.A.units + 64 < cLine) : OpR X (compareOp .NotEq) (rNeD X.K) := op_neD hu
theorem p_eqA : P2 c (rEqD c.K) mEq := p_eq
theorem p_neA : P2 c (rNeD c.K) mNe := p_ne
def mSort := mSortI
theorem cr_sortA : CallR X (.builtin "sorted") (rSortedI X.K) := cr_sortedI
theorem p_sort {fin : List MV → MH → R MV} (hf : FinN c fin) : PN c (rSortedI c.K) (mSort fin) := p_sortI hf

/-! ### x[::-1] -/
def mRev (fin : List MV → MH → R MV) (a : MV) (h : MH) : R MV := match asL a h with
  | some l => fin l.reverse h
  | none => .bad
theorem e_rev {fin : List MV → MH → R MV} {p1 p2 p3 : Pos} (hf : FinN c fin) (hK : X.K = c.K) (ha : PE X a (tE c W ra)) : PE X (.Subscript a (.Slice none none (some (.UnaryOp .USub (.Constant (.int 1) k p1) p2)) p3) pos) (tE c W (m1 (mRev fin) ra)) :=
  (pe_revL ha).wk fun σ H Q ⟨ι, β, mh, σm, rel, rl, p⟩ => by
    refine (run1 rel rl p).mono fun x H1 ⟨ι1, mh1, v, f1, rel1, rl1, rv, p1⟩ => ?_
    cases el : asL v mh1 with
    | none => unfold mRev at p1; rw [el] at p1; exact p1.elim
    | some l =>
      unfold mRev at p1; rw [el] at p1
      obtain ⟨b, vs, rfl, sq, r⟩ := asL_rep el rel1 rv
      exact ⟨b, vs, rfl, .inl (.inl sq), fun z hz => hf _ _ _ _ _ _ _ _ _ rel1 r.reverse hz p1⟩

/-! ### a, b = x, y -/
def sPar (i j : Nat) (rs : AM) : SM := fun σ h => bindS (rs σ h) σ fun as h1 => match as with
  | [a, b] => .nx ((σ.set i (some a)).set j (some b)) h1
  | _ => .bad
theorem s_par {i j : Nat} {x y : Str} {a b : Expr} {rs : AM} {px py pt : Pos} {kt k2 pt2} (hc : X.calm = true) (hN : X.N.Nodup) (hi : X.N[i]? = some x) (hj : X.N[j]? = some y) (hij : i ≠ j)
    (hx : X.env.scope.names.lookup x = some .local) (hy : X.env.scope.names.lookup y = some .local) (ha : PA X [a, b] (tA c W rs))
    (hw : swappedStores [.Tuple [.Name x px, .Name y py] kt pt] (.Tuple [a, b] k2 pt2) X.env = pure (some [x, y]) := by rfl)
    (hs : swapsWithSole [.Tuple [.Name x px, .Name y py] kt pt] (.Tuple [a, b] k2 pt2) pos.line X.env = pure false := by rfl) :
    PS X (.Assign [.Tuple [.Name x px, .Name y py] kt pt] (.Tuple [a, b] k2 pt2) pos) (tS c W (sPar i j rs)) :=
  (ps_par hc hN hi hj hij hx hy ha hw hs).wk fun D σ H ⟨ι, β, mh, σm, rel, rl, q⟩ => by
    refine (run1S rel rl q).mono fun vs H1 ⟨ι1, mh1, as, f1, rel1, rl1, ra, p1⟩ => ?_
    split at p1
    · obtain ⟨v, w, rfl, q1, q2⟩ := Vs2 ra
      exact ⟨v, w, rfl, p1 ι1 H1 _ .refl rel1 ((rl1.set q1).set q2)⟩
    · exact p1.elim
end
end MP

/-! Mirror layer, part 9: plain laws of mirror terms, for proofs with no program in sight. -/
namespace MP
open PySem PySem.Spec PyProof.Rows L2


@[simp] theorem bindR_ok {α γ : Type} (a : α) (h : MH) (k : α → MH → R γ) : bindR (.ok a h) k = k a h := rfl
@[simp] theorem bindS_ok {α : Type} (a : α) (h : MH) (σ : Lo) (k : α → MH → SR) : bindS (.ok a h) σ k = k a h := rfl
theorem bindR_ok' {α γ : Type} {x : R α} {a : α} {h : MH} {k : α → MH → R γ} (e : x = .ok a h) : bindR x k = k a h := by rw [e]; rfl

/-! numbers -/
section
variable (i j : Int) (h : MH)
@[simp] theorem lt_int : mLt (.int i) (.int j) h = .ok (.bl (decide (i < j))) h := rfl
@[simp] theorem le_int : mLe (.int i) (.int j) h = .ok (.bl (decide (i ≤ j))) h := rfl
@[simp] theorem gt_int : mGt (.int i) (.int j) h = .ok (.bl (decide (j < i))) h := rfl
@[simp] theorem ge_int : mGe (.int i) (.int j) h = .ok (.bl (decide (j ≤ i))) h := rfl
@[simp] theorem sub_int : mSubI (.int i) (.int j) h = .ok (.int (i - j)) h := rfl
@[simp] theorem add_int (fin) : mAdd fin (.int i) (.int j) h = .ok (.int (i + j)) h := rfl
theorem mod_int (p : 0 < j) : mModI (.int i) (.int j) h = .ok (.int (i % j)) h := by
  simp [mModI, iop, p]
theorem div_int (p : 0 < j) (q : j < 1073741824) : mDivI (.int i) (.int j) h = .ok (.int (i / j)) h := by
  simp [mDivI, iop, p, q]
theorem mul_int (fin) (q : (-18446744073709551616 < i ∧ i < 18446744073709551616) ∨ (-18446744073709551616 < j ∧ j < 18446744073709551616)) : mMul fin (.int i) (.int j) h = .ok (.int (i * j)) h := by
  have e : ((decide (-18446744073709551616 < i) && decide (i < 18446744073709551616)) || (decide (-18446744073709551616 < j) && decide (j < 18446744073709551616))) = true := by
    simpa using q
  show mMulI _ _ _ = _
  unfold mMulI iop
  simp only [e, if_true]
@[simp] theorem neg_int : mNeg (.int i) h = .ok (.int (-i)) h := rfl
@[simp] theorem eq_int : mEq (.int i) (.int j) h = .ok (.bl (decide (i = j))) h := by
  simp only [mEq, eqMV, toD, SeqAt.shaped, PyData.canLay0, PyData.depth, PyData.eqv, Nat.zero_le, decide_true, Bool.and_self, if_true, Bool.false_eq_true, if_false]
  by_cases z : i = j <;> simp [z]
@[simp] theorem ne_int : mNe (.int i) (.int j) h = .ok (.bl (!decide (i = j))) h := by
  simp only [mNe, eqMV, toD, SeqAt.shaped, PyData.canLay0, PyData.depth, PyData.eqv, Nat.zero_le, decide_true, Bool.and_self, if_true]
  by_cases z : i = j <;> simp [z]
@[simp] theorem isInt_int : isT .int (.int i) h = .ok (.bl true) h := rfl
@[simp] theorem isBl_int : isT .bl (.int i) h = .ok (.bl false) h := rfl
@[simp] theorem isTup_tup (l : List MV) : isT .tup (.tup l) h = .ok (.bl true) h := rfl
@[simp] theorem isNot_bl (a b : Bool) : mIsNot (.bl a) (.bl b) h = .ok (.bl (!decide (a = b))) h := rfl
@[simp] theorem is_bl (a b : Bool) : mIs (.bl a) (.bl b) h = .ok (.bl (decide (a = b))) h := rfl
end

/-! what has no reference -/
mutual
@[simp] def pureV : MV → Bool
  | .tup l => pureVs l
  | .lv l => pureVs l
  | .dv _ ws => pureVs ws
  | .fz l => pureVs l
  | .ref _ => false
  | _ => true
@[simp] def pureVs : List MV → Bool
  | [] => true
  | a :: l => pureV a && pureVs l
end
mutual
theorem cl_pure (n : Nat) : ∀ {v : MV}, pureV v = true → clV n v = true
  | .tup l, h => by unfold pureV at h; unfold clV; exact cls_pure n h
  | .lv l, h => by unfold pureV at h; unfold clV; exact cls_pure n h
  | .dv _ l, h => by unfold pureV at h; unfold clV; exact cls_pure n h
  | .fz l, h => by unfold pureV at h; unfold clV; exact cls_pure n h
  | .ref _, h => by unfold pureV at h; cases h
  | .non, _ => by unfold clV; rfl
  | .bl _, _ => by unfold clV; rfl
  | .int _, _ => by unfold clV; rfl
  | .str _, _ => by unfold clV; rfl
theorem cls_pure (n : Nat) : ∀ {l : List MV}, pureVs l = true → clVs n l = true
  | [], _ => by unfold clVs; rfl
  | a :: l, h => by
    unfold pureVs at h
    rw [Bool.and_eq_true] at h
    unfold clVs
    rw [cl_pure n h.1, cls_pure n h.2]; rfl
end
theorem pures_map {α : Type} {f : α → MV} (h : ∀ x, pureV (f x) = true) : ∀ l : List α, pureVs (l.map f) = true
  | [] => by simp [pureVs]
  | a :: l => by rw [List.map_cons, pureVs, h, pures_map h l]; rfl
theorem pures_app : ∀ {l r : List MV}, pureVs l = true → pureVs r = true → pureVs (l ++ r) = true
  | [], r, _, h => h
  | a :: l, r, h, h' => by
    rw [pureVs, Bool.and_eq_true] at h
    rw [List.cons_append, pureVs, h.1, pures_app h.2 h']; rfl
@[simp] theorem pure_ints (ns : List Int) : pureVs (ns.map .int) = true := pures_map (fun _ => by simp [pureV]) ns

theorem fr_pure (h : MH) (n f : Nat) {v : MV} (p : pureV v = true) : frV h n f v = some v := by
  cases f <;> simp [frV, cl_pure n p]
theorem frs_pure (h : MH) (n f : Nat) : ∀ {l : List MV}, pureVs l = true → mapO (frV h n f) l = some l
  | [], _ => rfl
  | a :: l, p => by
    rw [pureVs, Bool.and_eq_true] at p
    rw [mapO, fr_pure h n f p.1, frs_pure h n f p.2]
@[simp] theorem take_app (h g : MH) : (h ++ g).take h.length = h := by simp
theorem kept_app (h g : MH) : keptH h (h ++ g) = true := by simp [keptH]
/-- the same heap behind it -/
@[simp] theorem gcF_same (h : MH) (v : MV) : gcF h v h = .ok v h := by simp [gcF]
theorem gcF_pure (h g : MH) {v : MV} (p : pureV v = true) : gcF h v (h ++ g) = .ok v h := by
  unfold gcF
  by_cases z : (h ++ g).length ≤ h.length
  · have : g = [] := by
      rw [List.length_append] at z
      exact List.length_eq_zero_iff.mp (by omega)
    subst this
    rw [if_pos z, List.append_nil]
  · rw [if_neg z, if_pos (kept_app h g), fr_pure _ _ _ p, take_app]
theorem gcF_list (h g : MH) {l : List MV} {k : Nat} (e : g[k]? = some (.lst l)) (p : pureVs l = true) : gcF h (.ref (h.length + k)) (h ++ g) = .ok (.lv l) h := by
  obtain ⟨hk, ek⟩ := List.getElem?_eq_some_iff.mp e
  have z : ¬ (h ++ g).length ≤ h.length := by rw [List.length_append]; omega
  unfold gcF
  rw [if_neg z, if_pos (kept_app h g)]
  have e2 : (h ++ g)[h.length + k]? = some (.lst l) := by rw [List.getElem?_append_right (by omega)]; simpa using e
  have e3 : frV (h ++ g) h.length 12 (.ref (h.length + k)) = some (.lv l) := by
    rw [frV]
    have : clV h.length (.ref (h.length + k)) = false := by rw [clV]; simp
    rw [this]
    simp only [Bool.false_eq_true, if_false, e2, frs_pure _ _ _ p, Option.map_some]
  rw [e3, take_app]
theorem gcF_new (h : MH) {l : List MV} (p : pureVs l = true) : gcF h (.ref h.length) (h ++ [.lst l]) = .ok (.lv l) h := gcF_list h [.lst l] (k := 0) rfl p
theorem gcR_pure (h g : MH) {v : MV} (p : pureV v = true) : gcR h v (h ++ g) = .ok v (h ++ g) := by
  unfold gcR
  rw [if_pos (kept_app h g)]
  cases v with
  | ref n => simp at p
  | _ => rfl
@[simp] theorem gcR_same (h : MH) {v : MV} (p : pureV v = true) : gcR h v h = .ok v h := by
  have := gcR_pure h [] p
  rwa [List.append_nil] at this
theorem gcR_list (h g : MH) {l : List MV} {k : Nat} (e : g[k]? = some (.lst l)) (p : pureVs l = true) : gcR h (.ref (h.length + k)) (h ++ g) = .ok (.ref h.length) (h ++ [.lst l]) := by
  unfold gcR
  have e2 : (h ++ g)[h.length + k]? = some (.lst l) := by rw [List.getElem?_append_right (by omega)]; simpa using e
  rw [if_pos (kept_app h g)]
  simp only [show ¬ (h.length + k < h.length) from by omega, if_false, e2, frs_pure _ _ _ p, take_app]
theorem gcR_new (h : MH) {l : List MV} (p : pureVs l = true) : gcR h (.ref h.length) (h ++ [.lst l]) = .ok (.ref h.length) (h ++ [.lst l]) := gcR_list h [.lst l] (k := 0) rfl p
/-! calls -/
theorem cF_val {n : Nat} {m : List MV → MH → R MV} {as : List MV} {h g : MH} {v : MV} (hl : as.length = n) (e : m as h = .ok v (h ++ g)) (p : pureV v = true) : cF n m as h = .ok v h := by
  unfold cF; rw [if_pos hl, e, bindR_ok, gcF_pure h g p]
theorem cF_val0 {n : Nat} {m : List MV → MH → R MV} {as : List MV} {h : MH} {v : MV} (hl : as.length = n) (e : m as h = .ok v h) : cF n m as h = .ok v h := by
  unfold cF; rw [if_pos hl, e, bindR_ok, gcF_same]
theorem cF_new {n : Nat} {m : List MV → MH → R MV} {as : List MV} {h : MH} {l : List MV} (hl : as.length = n) (e : m as h = .ok (.ref h.length) (h ++ [.lst l])) (p : pureVs l = true) : cF n m as h = .ok (.lv l) h := by
  unfold cF; rw [if_pos hl, e, bindR_ok, gcF_new h p]
theorem cR_val0 {n : Nat} {m : List MV → MH → R MV} {as : List MV} {h : MH} {v : MV} (hl : as.length = n) (e : m as h = .ok v h) (p : pureV v = true) : cR n m as h = .ok v h := by
  unfold cR; rw [if_pos hl, e, bindR_ok, gcR_same _ p]
theorem cR_new {n : Nat} {m : List MV → MH → R MV} {as : List MV} {h : MH} {l : List MV} (hl : as.length = n) (e : m as h = .ok (.ref h.length) (h ++ [.lst l])) (p : pureVs l = true) : cR n m as h = .ok (.ref h.length) (h ++ [.lst l]) := by
  unfold cR; rw [if_pos hl, e, bindR_ok, gcR_new h p]

/-! reading -/
@[simp] theorem get_new (h : MH) (o : MO) : (h ++ [o])[h.length]? = some o := by simp
theorem mapO_map {α : Type} {γ δ : Type} {f : γ → Option δ} {g : α → γ} {k : α → δ} : ∀ {l : List α}, (∀ x ∈ l, f (g x) = some (k x)) → mapO f (l.map g) = some (l.map k)
  | [], _ => rfl
  | a :: l, h => by
    rw [List.map_cons, mapO, h a List.mem_cons_self, mapO_map (fun x hx => h x (List.mem_cons_of_mem _ hx))]
    rfl
theorem eq_same {a b : MV} {h : MH} {d : PyData} (e1 : toD h 12 a = some d) (e2 : toD h 12 b = some d) (s : SeqAt.shaped d = true) (r : PyData.eqv d d = true) : mEq a b h = .ok (.bl true) h := by
  simp [mEq, eqMV, e1, e2, s, r]
theorem ne_same {a b : MV} {h : MH} {d : PyData} (e1 : toD h 12 a = some d) (e2 : toD h 12 b = some d) (s : SeqAt.shaped d = true) (r : PyData.eqv d d = true) : mNe a b h = .ok (.bl false) h := by
  simp [mNe, eqMV, e1, e2, s, r]
mutual
def okD : PyData → Bool
  | .none => true
  | .bool _ => true
  | .int _ => true
  | .list l => okDs l
  | .tuple l => okDs l
  | _ => false
def okDs : List PyData → Bool
  | [] => true
  | a :: l => okD a && okDs l
end
mutual
theorem okD_lay : ∀ {d : PyData}, okD d = true → PyData.canLay0 d = true ∧ PyData.eqv d d = true
  | .none, _ => ⟨rfl, by simp [PyData.eqv]⟩
  | .bool _, _ => ⟨rfl, by simp [PyData.eqv]⟩
  | .int _, _ => ⟨rfl, by simp [PyData.eqv]⟩
  | .str _, h => by simp [okD] at h
  | .dict _, h => by simp [okD] at h
  | .list l, h => by
    rw [okD] at h
    have := okDs_lay h
    exact ⟨by rw [PyData.canLay0]; exact this.1, by rw [PyData.eqv]; exact this.2⟩
  | .tuple l, h => by
    rw [okD] at h
    have := okDs_lay h
    exact ⟨by rw [PyData.canLay0]; exact this.1, by rw [PyData.eqv]; exact this.2⟩
theorem okDs_lay : ∀ {l : List PyData}, okDs l = true → PyData.canLayAll0 l = true ∧ PyData.eqvAll l l = true
  | [], _ => ⟨by simp [PyData.canLayAll0], by simp [PyData.eqvAll]⟩
  | a :: l, h => by
    rw [okDs, Bool.and_eq_true] at h
    have h1 := okD_lay h.1
    have h2 := okDs_lay h.2
    exact ⟨by rw [PyData.canLayAll0, h1.1, h2.1]; rfl, by rw [PyData.eqvAll, h1.2, h2.2]; rfl⟩
end
theorem okDs_map {α : Type} {f : α → PyData} (h : ∀ x, okD (f x) = true) : ∀ l : List α, okDs (l.map f) = true
  | [] => by simp [okDs]
  | a :: l => by rw [List.map_cons, okDs, h, okDs_map h l]; rfl
theorem depthAll_map_le {α : Type} {f : α → PyData} {n : Nat} (h : ∀ x, PyData.depth (f x) ≤ n) : ∀ l : List α, PyData.depthAll (l.map f) ≤ n
  | [] => by simp [PyData.depthAll]
  | a :: l => by
    rw [List.map_cons, PyData.depthAll]
    exact Nat.max_le.mpr ⟨h a, depthAll_map_le h l⟩
theorem ne_okD {a b : MV} {h : MH} {d : PyData} (e1 : toD h 12 a = some d) (e2 : toD h 12 b = some d) (o : okD d = true) (n : PyData.depth d ≤ 64) : mNe a b h = .ok (.bl false) h :=
  ne_same e1 e2 (by unfold SeqAt.shaped; rw [(okD_lay o).1]; simpa using n) (okD_lay o).2
theorem eq_okD {a b : MV} {h : MH} {d : PyData} (e1 : toD h 12 a = some d) (e2 : toD h 12 b = some d) (o : okD d = true) (n : PyData.depth d ≤ 64) : mEq a b h = .ok (.bl true) h :=
  eq_same e1 e2 (by unfold SeqAt.shaped; rw [(okD_lay o).1]; simpa using n) (okD_lay o).2
/-- lists of likewise shaped things, one and the same -/
theorem ne_maps {α : Type} {xs : List α} {f g : α → MV} {k : α → PyData} {h : MH} {a b : MV} (ea : asS a h = some (xs.map f)) (eb : asS b h = some (xs.map g)) (ta : ∀ l, a ≠ .tup l) (tb : ∀ l, b ≠ .tup l)
    (hf : ∀ x ∈ xs, toD h 11 (f x) = some (k x)) (hg : ∀ x ∈ xs, toD h 11 (g x) = some (k x)) (o : ∀ x, okD (k x) = true) (n : ∀ x, PyData.depth (k x) ≤ 62) : mNe a b h = .ok (.bl false) h := by
  have go : ∀ (c : MV) (q : α → MV), asS c h = some (xs.map q) → (∀ l, c ≠ .tup l) → (∀ x ∈ xs, toD h 11 (q x) = some (k x)) → toD h 12 c = some (.list (xs.map k)) := fun c q ec tc hq => by
    cases c with
    | lv l => cases ec; rw [toD, mapO_map hq]; rfl
    | fz l => cases ec; rw [toD, mapO_map hq]; rfl
    | tup l => exact absurd rfl (tc l)
    | ref m =>
      unfold asS at ec
      cases eo : h[m]? with
      | none => simp only [eo] at ec; cases ec
      | some ob =>
        simp only [eo] at ec
        cases ob with
        | lst l => cases ec; rw [toD]; simp only [eo]; rw [mapO_map hq]; rfl
        | dct _ => cases ec
        | fdc _ => cases ec
        | ins _ _ => cases ec
    | _ => cases ec
  refine ne_okD (go a f ea ta hf) (go b g eb tb hg) (by rw [okD]; exact okDs_map o xs) ?_
  rw [PyData.depth]
  have := depthAll_map_le n xs
  omega
/-! loops -/
theorem forGo_inv {chk : MH → Bool} {g : GM} {body : SM} (P : List MV → Lo → MH → Prop) (step : ∀ x xs σ h, P (x :: xs) σ h → chk h = true ∧ ∃ σ1 h1, g x σ h = .ok σ1 h1 ∧ ∃ σ2 h2, body σ1 h1 = .nx σ2 h2 ∧ P xs σ2 h2)
    (last : ∀ σ h, P [] σ h → chk h = true) : ∀ (l : List MV) (σ : Lo) (h : MH), P l σ h → ∃ σ' h', forGo chk g body l σ h = .nx σ' h' ∧ P [] σ' h'
  | [], σ, h, p => ⟨σ, h, by rw [forGo, if_pos (last σ h p)], p⟩
  | x :: xs, σ, h, p => by
    obtain ⟨hc, σ1, h1, e1, σ2, h2, e2, p2⟩ := step x xs σ h p
    obtain ⟨σ', h', e, q⟩ := forGo_inv P step last xs σ2 h2 p2
    exact ⟨σ', h', by rw [forGo, if_pos hc, e1]; simp only [e2]; exact e, q⟩
/-- a loop each turn of which leaves all as it was -/
theorem forGo_same {chk : MH → Bool} {g : GM} {body : SM} {σ : Lo} {h : MH} (hc : chk h = true) : ∀ {l : List MV}, (∀ x ∈ l, ∃ σ1, g x σ h = .ok σ1 h ∧ body σ1 h = .nx σ h) → forGo chk g body l σ h = .nx σ h
  | [], _ => by rw [forGo, if_pos hc]
  | x :: xs, p => by
    obtain ⟨σ1, e1, e2⟩ := p x List.mem_cons_self
    rw [forGo, if_pos hc, e1]
    simp only [e2]
    exact forGo_same hc fun y hy => p y (List.mem_cons_of_mem _ hy)
/-! comprehensions -/
theorem lcGo_map {α : Type} {chk : MH → Bool} {p : TP} {t : TM} {e : EM} {σ : Lo} {h : MH} (hc : chk h = true) {q : α → MV} {b : α → Bool} {f : α → MV} : ∀ {l : List α}, (∀ x ∈ l, ∃ σ1, asP p (q x) σ = some σ1 ∧ t σ1 h = .ok (b x) h ∧ (b x = true → e σ1 h = .ok (f x) h)) →
    lcGo chk p t e (l.map q) σ h = .ok ((l.filter b).map f) h
  | [], _ => by rw [List.map_nil, lcGo, if_pos hc]; rfl
  | x :: xs, z => by
    obtain ⟨σ1, e1, e2, e3⟩ := z x List.mem_cons_self
    have ih := lcGo_map (l := xs) hc fun y hy => z y (List.mem_cons_of_mem _ hy)
    rw [List.map_cons, lcGo, if_pos hc, e1]
    simp only [e2]
    cases hb : b x with
    | true =>
      simp only [if_true, e3 hb, ih, List.filter_cons, hb, List.map_cons]
    | false =>
      simp only [Bool.false_eq_true, if_false, ih, List.filter_cons, hb]
/-- without a test -/
theorem lcGo_all {α : Type} {chk : MH → Bool} {p : TP} {e : EM} {σ : Lo} {h : MH} (hc : chk h = true) {q : α → MV} {f : α → MV} {l : List α} (z : ∀ x ∈ l, ∃ σ1, asP p (q x) σ = some σ1 ∧ e σ1 h = .ok (f x) h) :
    lcGo chk p mYes e (l.map q) σ h = .ok (l.map f) h := by
  rw [lcGo_map (b := fun _ => true) hc fun x hx => by
    obtain ⟨σ1, e1, e2⟩ := z x hx
    exact ⟨σ1, e1, rfl, fun _ => e2⟩]
  rw [List.filter_eq_self.mpr (fun _ _ => rfl)]
theorem cut_last (l : List MV) (x : MV) : cutM (l ++ [x]) none (some (-1)) = l := by
  unfold cutM
  simp only [HT.sIx, List.drop_zero, Nat.sub_zero, List.length_append, List.length_singleton]
  rw [if_pos (by omega)]
  have : ((-1 : Int) + ((l.length + 1 : Nat) : Int)).toNat = l.length := by omega
  rw [this, List.take_append_of_le_length (Nat.le_refl _), List.take_length]
/-- ordered already -/
theorem isort_eq {l r : List Int} (p : r.Perm l) (s : r.Pairwise (· ≤ ·)) : isortI l = r :=
  sorted_unique ((isortI_perm l).trans p.symm) (isortI_sorted l) s
theorem inB_of {i : Int} (h1 : -1000000000 ≤ i) (h2 : i ≤ 1000000000) : inB i = true := by
  unfold inB
  rw [decide_eq_true (Int.le_trans (show -B62 ≤ -1000000000 by decide) h1), decide_eq_true (Int.lt_of_le_of_lt h2 (show (1000000000 : Int) < B62 by decide))]
  rfl
theorem gcL_app {ks : List Nat} {h g : MH} {σ : Lo} (e : clL h.length (killL ks σ) = true) : gcL ks h σ (h ++ g) = (killL ks σ, h) := by
  unfold gcL
  by_cases z : (h ++ g).length ≤ h.length
  · have : g = [] := by
      rw [List.length_append] at z
      exact List.length_eq_zero_iff.mp (by omega)
    subst this
    rw [if_pos z, List.append_nil]
  · rw [if_neg z, e, kept_app, take_app]; rfl
@[simp] theorem gcL_same (ks : List Nat) (h : MH) (σ : Lo) : gcL ks h σ h = (killL ks σ, h) := by simp [gcL]
theorem sGc_same {ks : List Nat} {b : SM} {σ σ2 : Lo} {h : MH} (e : b σ h = .nx σ2 h) : sGc ks b σ h = .nx (killL ks σ2) h := by
  unfold sGc; rw [e]; simp only [gcL_same]
theorem sGc_app {ks : List Nat} {b : SM} {σ σ2 : Lo} {h g : MH} (e : b σ h = .nx σ2 (h ++ g)) (cl : clL h.length (killL ks σ2) = true) : sGc ks b σ h = .nx (killL ks σ2) h := by
  unfold sGc; rw [e]; simp only [gcL_app cl]
@[simp] theorem set_new (h : MH) (o o' : MO) : (h ++ [o]).set h.length o' = h ++ [o'] := by
  rw [List.set_append_right _ _ (Nat.le_refl _)]; simp
theorem app_new (h : MH) {l : List MV} (v : MV) (z : l.length < SZ) : mAppend (.ref h.length) [v] (h ++ [.lst l]) = .ok .non (h ++ [.lst (l ++ [v])]) := by
  unfold mAppend
  simp only [get_new, if_pos z, setH, set_new]
theorem asL_new (h : MH) (l : List MV) : asL (.ref h.length) (h ++ [.lst l]) = some l := by
  unfold asL; simp only [get_new]
theorem asS_new (h : MH) (l : List MV) : asS (.ref h.length) (h ++ [.lst l]) = some l := by
  unfold asS; simp only [get_new]
theorem sl_last (h : MH) (l : List MV) (v : MV) : mSl finV (.ref h.length) none (some (-1)) (h ++ [MO.lst (l ++ [v])]) = .ok (.lv l) (h ++ [MO.lst (l ++ [v])]) := by
  unfold mSl
  simp only [asL_new, cut_last, finV]
theorem m_append {ro : EM} {rs : AM} {σ : Lo} {g : MH} {l : List MV} {v : MV} (e1 : ro σ (g ++ [MO.lst l]) = .ok (.ref g.length) (g ++ [MO.lst l])) (e2 : rs σ (g ++ [MO.lst l]) = .ok [v] (g ++ [MO.lst l])) (z : l.length < SZ) : mMeth mAppend ro rs σ (g ++ [MO.lst l]) = .ok .non (g ++ [MO.lst (l ++ [v])]) := by
  unfold mMeth
  rw [e1]
  simp only [bindR_ok, asL_new, e2, app_new g v z]
end MP

/-! printed by gen.py: the mirror of law_k02_runs_told -/
namespace MP
open PySem PySem.Spec PyProof.Rows L2
def c_LOT : EM := mC (.int 8)
def c_MANY : EM := mC (.tup [.int 1, .int 2, .int 4, .int 8])
def c_MOST_ORDER : EM := mC (.int 3)
def c_MOST_SIZE : EM := mC (.int 64)
def g_kb_fellow_10 : List MV → List MV := fun as => match as with | [a0, a1] => [a1, a0] | _ => []
def g_kb_frames_of_10 : List MV → List MV := fun as => match as with | [a0, a1] => [a1, a0] | _ => []
def g_kb_halves_10 : List MV → List MV := fun as => match as with | [a0, a1] => [a1, a0] | _ => []
def g_kb_is_order_0 : List MV → List MV := fun as => match as with | [a0] => [a0] | _ => []
def g_kb_is_run_10 : List MV → List MV := fun as => match as with | [a0, a1] => [a1, a0] | _ => []
def g_kb_is_size_0 : List MV → List MV := fun as => match as with | [a0] => [a0] | _ => []
def g_kb_run_with_210 : List MV → List MV := fun as => match as with | [a0, a1, a2] => [a2, a1, a0] | _ => []
def g_kb_runs_10 : List MV → List MV := fun as => match as with | [a0, a1] => [a1, a0] | _ => []
def mb_is_whole : SM :=
  (sRet (mAndV (m1 (isT .int) (mVar 0)) (mNotV (m1 (isT .bl) (mVar 0)))))
def m_is_whole : List MV → MH → R MV := fnM 1 mb_is_whole
def mb_is_from : SM :=
  (sRet (mAndV (mN (cF 1 m_is_whole) (mCons (mVar 0) mNil)) (m3c mLe mLe (mVar 1) (mVar 0) (mVar 2))))
def m_is_from : List MV → MH → R MV := fnM 3 mb_is_from
def mb_is_size : SM :=
  (sRet (mAndV (mN (cF 3 m_is_from) (mCons (mVar 0) (mCons c_LOT (mCons c_MOST_SIZE mNil)))) (m2 mEq (m2 mModI (mVar 0) c_LOT) (mC (.int 0)))))
def m_is_size : List MV → MH → R MV := fnM 1 mb_is_size
def mb_is_order : SM :=
  (sRet (mN (cR 3 m_is_from) (mCons (mVar 0) (mCons (mC (.int 0)) (mCons c_MOST_ORDER mNil)))))
def m_is_order : List MV → MH → R MV := fnM 1 mb_is_order
def mb_is_frame : SM :=
  (sRet (mN (cR 3 m_is_from) (mCons (mVar 1) (mCons (mC (.int 0)) (mCons (m2 mSubI (mVar 0) (mC (.int 1))) mNil)))))
def m_is_frame : List MV → MH → R MV := fnM 2 mb_is_frame
def mb_look_at_size : SM :=
  (sIf (mNot (mTru (mN (cF 1 m_is_size) (mCons (mVar 0) mNil))))
  sNever
  sNil)
def m_look_at_size : List MV → MH → R MV := fnM 1 mb_look_at_size
def mb_look_at_order : SM :=
  (sIf (mNot (mTru (mN (cF 1 m_is_order) (mCons (mVar 0) mNil))))
  sNever
  sNil)
def m_look_at_order : List MV → MH → R MV := fnM 1 mb_look_at_order
def mb_is_run : SM :=
  (sSeq (sExpr (mN (cF 1 m_look_at_size) (mCons (mVar 0) mNil)))
  (sSeq (sIf (mOr (mNot (mTru (m1 (isT .tup) (mVar 1)))) (mOr (mB (m2 mNe (mN mLen (mCons (mVar 1) mNil)) (mC (.int 2)))) (mNot (mTru (mN (cF 1 m_is_order) (mCons (m2 mIxA (mVar 1) (mC (.int 0))) mNil))))))
  (sRet (mC (.bl false)))
  sNil)
  (sRet (mAndV (mN (cF 3 m_is_from) (mCons (m2 mIxA (mVar 1) (mC (.int 1))) (mCons (mC (.int 0)) (mCons (m2 mSubI (mVar 0) (mC (.int 1))) mNil)))) (m2 mEq (m2 mModI (m2 mIxA (mVar 1) (mC (.int 1))) (m2 mIxA c_MANY (m2 mIxA (mVar 1) (mC (.int 0))))) (mC (.int 0)))))))
def m_is_run : List MV → MH → R MV := fnM 2 mb_is_run
def mb_look_at_run : SM :=
  (sIf (mNot (mTru (mN (cF 2 m_is_run) (mCons (mVar 0) (mCons (mVar 1) mNil)))))
  sNever
  sNil)
def m_look_at_run : List MV → MH → R MV := fnM 2 mb_look_at_run
def mb_frames_of : SM :=
  (sSeq (sExpr (mN (cF 2 m_look_at_run) (mCons (mVar 0) (mCons (mVar 1) mNil))))
  (sSeq (sAsg (mVar 1) (gmTup (gmCons (gmName 2) (gmCons (gmName 3) gmNil)) 2))
  (sRet (m2 (mRg2 finR) (mVar 3) (m2 (mAdd finV) (mVar 3) (m2 mIxA c_MANY (mVar 2)))))))
def m_frames_of : List MV → MH → R MV := fnM 4 mb_frames_of
def mb_halves : SM :=
  (sSeq (sExpr (mN (cF 2 m_look_at_run) (mCons (mVar 0) (mCons (mVar 1) mNil))))
  (sSeq (sAsg (mVar 1) (gmTup (gmCons (gmName 2) (gmCons (gmName 3) gmNil)) 2))
  (sSeq (sIf (mB (m2 mEq (mVar 2) (mC (.int 0))))
  sNever
  sNil)
  (sRet (mN mkLst (mCons (mN mkTup (mCons (m2 mSubI (mVar 2) (mC (.int 1))) (mCons (mVar 3) mNil))) (mCons (mN mkTup (mCons (m2 mSubI (mVar 2) (mC (.int 1))) (mCons (m2 (mAdd finV) (mVar 3) (m2 mIxA c_MANY (m2 mSubI (mVar 2) (mC (.int 1))))) mNil))) mNil)))))))
def m_halves : List MV → MH → R MV := fnM 4 mb_halves
def mb_run_with : SM :=
  (sSeq (sExpr (mN (cF 1 m_look_at_size) (mCons (mVar 0) mNil)))
  (sSeq (sExpr (mN (cF 1 m_look_at_order) (mCons (mVar 1) mNil)))
  (sSeq (sIf (mNot (mTru (mN (cF 2 m_is_frame) (mCons (mVar 0) (mCons (mVar 2) mNil)))))
  sNever
  sNil)
  (sRet (mN mkTup (mCons (mVar 1) (mCons (m2 mSubI (mVar 2) (m2 mModI (mVar 2) (m2 mIxA c_MANY (mVar 1)))) mNil)))))))
def m_run_with : List MV → MH → R MV := fnM 3 mb_run_with
def mb_fellow : SM :=
  (sSeq (sExpr (mN (cF 2 m_look_at_run) (mCons (mVar 0) (mCons (mVar 1) mNil))))
  (sSeq (sAsg (mVar 1) (gmTup (gmCons (gmName 2) (gmCons (gmName 3) gmNil)) 2))
  (sSeq (sIf (mB (m2 mEq (mVar 2) c_MOST_ORDER))
  sNever
  sNil)
  (sSeq (sSet 4 (m2 mIxA c_MANY (mVar 2)))
  (sRet (mN mkTup (mCons (mVar 2) (mCons (mIf (mTru (m2 mModI (mVar 3) (m2 (mMul finV) (mC (.int 2)) (mVar 4)))) (m2 mSubI (mVar 3) (mVar 4)) (m2 (mAdd finR) (mVar 3) (mVar 4))) mNil))))))))
def m_fellow : List MV → MH → R MV := fnM 5 mb_fellow
def le_runs_0 : EM :=
  (mN mkTup (mCons (mVar 1) (mCons (mVar 2) mNil)))
def mb_runs : SM :=
  (sSeq (sExpr (mN (cF 1 m_look_at_size) (mCons (mVar 0) mNil)))
  (sSeq (sExpr (mN (cF 1 m_look_at_order) (mCons (mVar 1) mNil)))
  (sRet (mLc (fun σ h => bindR ((mCons (mC (.int 0)) (mCons (mVar 0) (mCons (m2 mIxA c_MANY (mVar 1)) mNil))) σ h) itR3) (.nm 2) mYes le_runs_0 [2] finR))))
def m_runs : List MV → MH → R MV := fnM 3 mb_runs
def mb_law_pool : SM :=
  (sSeq (sSet 2 (mC (.int 0)))
  (sSeq (sIf (mB (m2 mLt (mVar 1) (mN mLen (mCons (mVar 0) mNil))))
  (sSet 2 (m2 mIxA (mVar 0) (mVar 1)))
  sNil)
  (sSeq (sSet 3 (mN mMax (mCons (mVar 2) (mCons (m2 mSubI (m1 mNeg (mC (.int 1))) (mVar 2)) mNil))))
  (sSeq (sSet 4 (m2 mModI (m2 (mMul finV) (m2 (mAdd finV) (m2 (mAdd finV) (m2 (mAdd finV) (m2 mModI (mVar 3) (mC (.int 2147483629))) (m2 (mMul finV) (m2 (mMul finV) (mC (.int 7919)) (mVar 1)) (mVar 1))) (m2 (mMul finV) (mC (.int 31)) (mVar 1))) (mC (.int 17))) (mC (.int 48271))) (mC (.int 2147483647))))
  (sRet (mN mkLst (mCons (m2 (mMul finV) (mVar 3) (mN mInt (mCons (m2 mGe (mVar 3) (m2 mPowI (mC (.int 10)) (mC (.int 18)))) mNil))) (mCons (mVar 4) mNil))))))))
def m_law_pool : List MV → MH → R MV := fnM 5 mb_law_pool
def mb_law_draw : SM :=
  (sSeq (sIf (mB (m2 mGt (m2 mIxA (mVar 0) (mC (.int 0))) (mC (.int 0))))
  (sSeq (sSet 2 (m2 mModI (m2 mIxA (mVar 0) (mC (.int 0))) (mVar 1)))
  (sSeq (sSetA (m2 mDivI (m2 mIxA (mVar 0) (mC (.int 0))) (mVar 1)) (mVar 0) (mC (.int 0)))
  (sRet (mVar 2))))
  sNil)
  (sSeq (sSetA (m2 mModI (m2 (mAdd finV) (m2 (mMul finV) (m2 mIxA (mVar 0) (mC (.int 1))) (mC (.int 69621))) (mC (.int 7))) (mC (.int 2147483647))) (mVar 0) (mC (.int 1)))
  (sRet (m2 mModI (m2 mDivI (m2 mModI (m2 (mMul finV) (m2 mIxA (mVar 0) (mC (.int 1))) (m2 mIxA (mVar 0) (mC (.int 1)))) (mC (.int 2147483629))) (mC (.int 32))) (mVar 1)))))
def m_law_draw : List MV → MH → R MV := fnM 3 mb_law_draw
def lb_law_right_0 : SM :=
  (sIf (mOr (mB (m2 mNe (mN (cF 3 m_run_with) (mCons (mVar 0) (mCons (mVar 1) (mCons (mVar 6) mNil)))) (mVar 4))) (mB (m2 mNe (mN (fun as h => match cF 3 m_run_with (g_kb_run_with_210 as) h with | .ok v h' => .ok v h' | _ => .bad) (mCons (mVar 6) (mCons (mVar 1) (mCons (mVar 0) mNil)))) (mVar 4))))
  (sRet (mC (.bl false)))
  sNil)
def le_law_right_0 : EM :=
  (m2 (mAdd finV) (m2 mIxA (mVar 4) (mC (.int 1))) (mVar 10))
def lb_law_right_1 : SM :=
  (sSeq (sSet 5 (mN (cR 2 m_frames_of) (mCons (mVar 0) (mCons (mVar 4) mNil))))
  (sSeq (sIf (mOr (mB (m2 mNe (mVar 5) (mLc (fun σ h => bindR ((mCons (mVar 2) mNil) σ h) itR1) (.nm 10) mYes le_law_right_0 [10] finV))) (mB (m2 mNe (mN (fun as h => match cF 2 m_frames_of (g_kb_frames_of_10 as) h with | .ok v h' => .ok v h' | _ => .bad) (mCons (mVar 4) (mCons (mVar 0) mNil))) (mVar 5))))
  (sRet (mC (.bl false)))
  sNil)
  (sSeq (sExpr (mMeth mAppend (mVar 5) (mCons (mC (.int 0)) mNil)))
  (sSeq (sIf (mB (m2 mNe (mN (cF 2 m_frames_of) (mCons (mVar 0) (mCons (mVar 4) mNil))) (m3o (mSl finV) (mVar 5) oNone (oSome (m1 mNeg (mC (.int 1)))))))
  (sRet (mC (.bl false)))
  sNil)
  (sSeq (sFor (iL (m3o (mSl finV) (mVar 5) oNone (oSome (m1 mNeg (mC (.int 1)))))) (gmName 6) (sGc [6]
  lb_law_right_0))
  (sSeq (sIf (mB (m2 mGt (mVar 1) (mC (.int 0))))
  (sSeq (sSet 7 (mN (fun as h => match cF 2 m_halves (g_kb_halves_10 as) h with | .ok v h' => .ok v h' | _ => .bad) (mCons (mVar 4) (mCons (mVar 0) mNil))))
  (sIf (mOr (mB (m2 mNe (mVar 7) (mN mkLv (mCons (mN mkTup (mCons (m2 mSubI (mVar 1) (mC (.int 1))) (mCons (m2 mIxA (mVar 4) (mC (.int 1))) mNil))) (mCons (mN mkTup (mCons (m2 mSubI (mVar 1) (mC (.int 1))) (mCons (m2 (mAdd finV) (m2 mIxA (mVar 4) (mC (.int 1))) (m2 mDivI (mVar 2) (mC (.int 2)))) mNil))) mNil))))) (mB (m2 mNe (mN (cF 2 m_halves) (mCons (mVar 0) (mCons (mVar 4) mNil))) (mVar 7))))
  (sRet (mC (.bl false)))
  sNil))
  sNil)
  (sIf (mB (m2 mLt (mVar 1) (mC (.int 3))))
  (sSeq (sSet 8 (mN (cF 2 m_fellow) (mCons (mVar 0) (mCons (mVar 4) mNil))))
  (sSeq (sSet 9 (mN (mSort finV) (mCons (m2 (mAdd finV) (mN (cF 2 m_frames_of) (mCons (mVar 0) (mCons (mVar 4) mNil))) (mN (cF 2 m_frames_of) (mCons (mVar 0) (mCons (mVar 8) mNil)))) mNil)))
  (sIf (mOr (mB (m2 mNe (mN (cF 2 m_frames_of) (mCons (mVar 0) (mCons (mN (cF 3 m_run_with) (mCons (mVar 0) (mCons (m2 (mAdd finV) (mVar 1) (mC (.int 1))) (mCons (m2 mIxA (mVar 4) (mC (.int 1))) mNil)))) mNil))) (mVar 9))) (mB (m2 mNe (mN (fun as h => match cF 2 m_fellow (g_kb_fellow_10 as) h with | .ok v h' => .ok v h' | _ => .bad) (mCons (mVar 8) (mCons (mVar 0) mNil))) (mVar 4))))
  (sRet (mC (.bl false)))
  sNil)))
  sNil)))))))
def lt_law_right_0 : TM :=
  (mB (m2 mIsNot (mN (fun as h => match cF 2 m_is_run (g_kb_is_run_10 as) h with | .ok v h' => .ok v h' | _ => .bad) (mCons (mVar 4) (mCons (mVar 0) mNil))) (mC (.bl true))))
def le_law_right_1 : EM :=
  (mVar 4)
def le_law_right_2 : EM :=
  (mN mkTup (mCons (mVar 1) (mCons (m2 (mMul finV) (mVar 2) (mVar 10)) mNil)))
def mb_law_right : SM :=
  (sSeq (sSet 2 (m2 mIxA (mN mkLv (mCons (mC (.int 1)) (mCons (mC (.int 2)) (mCons (mC (.int 4)) (mCons (mC (.int 8)) mNil))))) (mVar 1)))
  (sSeq (sSet 3 (mN (cR 2 m_runs) (mCons (mVar 0) (mCons (mVar 1) mNil))))
  (sSeq (sIf (mB (m2 mNe (mVar 3) (mLc (fun σ h => bindR ((mCons (m2 mDivI (mVar 0) (mVar 2)) mNil) σ h) itR1) (.nm 10) mYes le_law_right_2 [10] finV)))
  (sRet (mC (.bl false)))
  sNil)
  (sSeq (sExpr (mMeth mAppend (mVar 3) (mCons (mC .non) mNil)))
  (sSeq (sIf (mB (m2 mNe (mN mLen (mCons (mN (fun as h => match cF 2 m_runs (g_kb_runs_10 as) h with | .ok v h' => .ok v h' | _ => .bad) (mCons (mVar 1) (mCons (mVar 0) mNil))) mNil)) (m2 mDivI (mVar 0) (mVar 2))))
  (sRet (mC (.bl false)))
  sNil)
  (sSeq (sIf (mOr (mB (m2 mIsNot (mN (fun as h => match cF 1 m_is_size (g_kb_is_size_0 as) h with | .ok v h' => .ok v h' | _ => .bad) (mCons (mVar 0) mNil)) (mC (.bl true)))) (mB (m2 mIsNot (mN (fun as h => match cF 1 m_is_order (g_kb_is_order_0 as) h with | .ok v h' => .ok v h' | _ => .bad) (mCons (mVar 1) mNil)) (mC (.bl true)))))
  (sRet (mC (.bl false)))
  sNil)
  (sSeq (sIf (mB (m2 mNe (mLc (iL (m3o (mSl finV) (mVar 3) oNone (oSome (m1 mNeg (mC (.int 1)))))) (.nm 4) lt_law_right_0 le_law_right_1 [4] finV) (mN mkLv mNil)))
  (sRet (mC (.bl false)))
  sNil)
  (sSeq (sFor (iL (m3o (mSl finV) (mVar 3) oNone (oSome (m1 mNeg (mC (.int 1)))))) (gmName 4) (sGc [4, 5, 6]
  lb_law_right_1))
  (sRet (mC (.bl true)))))))))))
def m_law_right : List MV → MH → R MV := fnM 11 mb_law_right
def lb_law_0 : SM :=
  (sIf (mNot (mTru (mN (cF 2 m_law_right) (mCons (mVar 3) (mCons (mVar 4) mNil)))))
  (sRet (mC (.bl false)))
  sNil)
def lb_law_1 : SM :=
  (sSeq (sSet 2 (mN (cR 2 m_law_pool) (mCons (mVar 0) (mCons (mVar 1) mNil))))
  (sSeq (sSet 3 (m2 (mMul finV) (mC (.int 8)) (m2 (mAdd finV) (mC (.int 1)) (mN (cF 2 m_law_draw) (mCons (mVar 2) (mCons (mC (.int 8)) mNil))))))
  (sFor (fun σ h => bindR ((mCons (mC (.int 4)) mNil) σ h) itR1) (gmName 4) (sGc [4]
  lb_law_0))))
def mb_law : SM :=
  (sSeq (sFor (fun σ h => bindR ((mCons (mN mMax (mCons (mC (.int 1)) (mCons (mN mMin (mCons (mC (.int 12)) (mCons (mN mLen (mCons (mVar 0) mNil)) mNil))) mNil))) mNil) σ h) itR1) (gmName 1) (sGc [1, 2, 3, 4]
  lb_law_1))
  (sRet (mC (.bl true))))
def m_law : List MV → MH → R MV := fnM 5 mb_law
end MP

namespace MP
open PySem PySem.Spec PyProof.Rows L2
def isz (s : Int) : Bool := decide (8 ≤ s) && decide (s ≤ 64) && decide (s % 8 = 0)
def iso (o : Int) : Bool := decide (0 ≤ o) && decide (o ≤ 3)
def mny (o : Int) : Int := if o = 0 then 1 else if o = 1 then 2 else if o = 2 then 4 else 8
theorem mny_ix {o : Int} (h : iso o = true) (hp : MH) : mIxA (.tup [.int 1, .int 2, .int 4, .int 8]) (.int o) hp = .ok (.int (mny o)) hp := by
  simp only [iso, Bool.and_eq_true, decide_eq_true_eq] at h
  have : o = 0 ∨ o = 1 ∨ o = 2 ∨ o = 3 := by omega
  rcases this with rfl | rfl | rfl | rfl <;> rfl
section
variable (s o f a lo hi : Int) (h : MH)
theorem is_whole_i : m_is_whole [.int a] h = .ok (.bl true) h := by simp [m_is_whole, mb_is_whole]
theorem is_from_i : m_is_from [.int a, .int lo, .int hi] h = .ok (.bl (decide (lo ≤ a) && decide (a ≤ hi))) h := by
  have e := cF_val0 (n := 1) rfl (is_whole_i a h)
  by_cases z : lo ≤ a <;> simp [m_is_from, mb_is_from, e, z]
theorem is_size_i : m_is_size [.int s] h = .ok (.bl (isz s)) h := by
  have e := cF_val0 (n := 3) rfl (is_from_i s 8 64 h)
  by_cases z : 8 ≤ s ∧ s ≤ 64
  · simp [m_is_size, mb_is_size, c_LOT, c_MOST_SIZE, e, z, isz, mod_int]
  · have z2 : (decide (8 ≤ s) && decide (s ≤ 64)) = false := by simpa using z
    simp [m_is_size, mb_is_size, c_LOT, c_MOST_SIZE, e, z2, isz]
theorem is_order_i : m_is_order [.int o] h = .ok (.bl (iso o)) h := by
  have e := cR_val0 (n := 3) rfl (is_from_i o 0 3 h) (by simp)
  simp [m_is_order, mb_is_order, c_MOST_ORDER, e, iso]
theorem is_frame_i : m_is_frame [.int s, .int f] h = .ok (.bl (decide (0 ≤ f) && decide (f ≤ s - 1))) h := by
  have e := cR_val0 (n := 3) rfl (is_from_i f 0 (s - 1) h) (by simp)
  simp [m_is_frame, mb_is_frame, e]
variable {s o f}
theorem look_size_i (hs : isz s = true) : m_look_at_size [.int s] h = .ok .non h := by
  have e := cF_val0 (n := 1) rfl (is_size_i s h)
  simp [m_look_at_size, mb_look_at_size, e, hs]
theorem look_order_i (ho : iso o = true) : m_look_at_order [.int o] h = .ok .non h := by
  have e := cF_val0 (n := 1) rfl (is_order_i o h)
  simp [m_look_at_order, mb_look_at_order, e, ho]
def isr (s o f : Int) : Bool := decide (0 ≤ f) && decide (f ≤ s - 1) && decide (f % mny o = 0)
theorem mny_pos (o : Int) : 0 < mny o := by
  unfold mny
  split
  · decide
  · split
    · decide
    · split <;> decide
theorem is_run_i (hs : isz s = true) (ho : iso o = true) : m_is_run [.int s, .tup [.int o, .int f]] h = .ok (.bl (isr s o f)) h := by
  have e1 := cF_val0 (n := 1) rfl (look_size_i h hs)
  have e2 := cF_val0 (n := 1) rfl (is_order_i o h)
  have e3 := cF_val0 (n := 3) rfl (is_from_i f 0 (s - 1) h)
  have l2 : mLen [.tup [.int o, .int f]] h = .ok (.int 2) h := rfl
  have i0 : mIxA (.tup [.int o, .int f]) (.int 0) h = .ok (.int o) h := rfl
  have i1 : mIxA (.tup [.int o, .int f]) (.int 1) h = .ok (.int f) h := rfl
  have i2 := mny_ix ho h
  have e4 := mod_int f (mny o) h (mny_pos o)
  by_cases z : 0 ≤ f ∧ f ≤ s - 1
  · simp [m_is_run, mb_is_run, c_MANY, e1, e2, e3, l2, i0, i1, ho, i2, e4, isr, z]
  · have z2 : (decide (0 ≤ f) && decide (f ≤ s - 1)) = false := by simpa using z
    simp [m_is_run, mb_is_run, c_MANY, e1, e2, e3, l2, i0, i1, ho, i2, e4, isr, z2]
theorem look_run_i (hs : isz s = true) (ho : iso o = true) (hr : isr s o f = true) : m_look_at_run [.int s, .tup [.int o, .int f]] h = .ok .non h := by
  have e := cF_val0 (n := 2) rfl (is_run_i (f := f) h hs ho)
  simp [m_look_at_run, mb_look_at_run, e, hr]
theorem pure_rgL (a b : Int) : pureVs (rgL a b) = true := pures_map (fun _ => by simp) _
theorem isz_le (hs : isz s = true) : 8 ≤ s ∧ s ≤ 64 ∧ s % 8 = 0 := by
  simp only [isz, Bool.and_eq_true, decide_eq_true_eq] at hs
  exact ⟨hs.1.1, hs.1.2, hs.2⟩
theorem isr_le (hr : isr s o f = true) : 0 ≤ f ∧ f ≤ s - 1 ∧ f % mny o = 0 := by
  simp only [isr, Bool.and_eq_true, decide_eq_true_eq] at hr
  exact ⟨hr.1.1, hr.1.2, hr.2⟩
theorem mny_le (o : Int) : mny o ≤ 8 := by
  unfold mny
  split
  · decide
  · split
    · decide
    · split <;> decide
theorem mkRg_i {fin} {a b : Int} (h1 : -1000 ≤ a) (h2 : a ≤ 1000) (h3 : -1000 ≤ b) (h4 : b ≤ 1000) : mkRg fin a b h = fin (rgL a b) h := by
  unfold mkRg
  rw [if_pos]
  have h5 : (b - a).toNat ≤ SZ := Nat.le_trans (show (b - a).toNat ≤ 2000 by omega) (by decide)
  have h6 : inB a = true := inB_of (by omega) (by omega)
  have h7 : inB b = true := inB_of (by omega) (by omega)
  rw [h6, h7, decide_eq_true h5]; rfl
theorem frames_of_i (hs : isz s = true) (ho : iso o = true) (hr : isr s o f = true) : m_frames_of [.int s, .tup [.int o, .int f]] h = .ok (.ref h.length) (h ++ [.lst (rgL f (f + mny o))]) := by
  have e1 := cF_val0 (n := 2) rfl (look_run_i h hs ho hr)
  have i2 := mny_ix ho h
  have := isz_le hs
  have := isr_le hr
  have := mny_pos o
  have := mny_le o
  have e2 : mRg2 finR (.int f) (.int (f + mny o)) h = .ok (.ref h.length) (h ++ [.lst (rgL f (f + mny o))]) := mkRg_i h (by omega) (by omega) (by omega) (by omega)
  simp [m_frames_of, mb_frames_of, c_MANY, e1, i2, e2]
theorem run_with_i (hs : isz s = true) (ho : iso o = true) (h1 : 0 ≤ f) (h2 : f ≤ s - 1) : m_run_with [.int s, .int o, .int f] h = .ok (.tup [.int o, .int (f - f % mny o)]) h := by
  have e1 := cF_val0 (n := 1) rfl (look_size_i h hs)
  have e2 := cF_val0 (n := 1) rfl (look_order_i h ho)
  have e3 := cF_val0 (n := 2) rfl (is_frame_i s f h)
  have i2 := mny_ix ho h
  have e4 := mod_int f (mny o) h (mny_pos o)
  simp [m_run_with, mb_run_with, c_MANY, e1, e2, e3, h1, h2, i2, e4, SZ]
theorem halves_i (hs : isz s = true) (ho : iso o = true) (hr : isr s o f = true) (h0 : o ≠ 0) : m_halves [.int s, .tup [.int o, .int f]] h = .ok (.ref h.length) (h ++ [.lst [.tup [.int (o - 1), .int f], .tup [.int (o - 1), .int (f + mny (o - 1))]]]) := by
  have e1 := cF_val0 (n := 2) rfl (look_run_i h hs ho hr)
  have i2 := mny_ix (o := o - 1) (by simp only [iso, Bool.and_eq_true, decide_eq_true_eq] at ho ⊢; omega) h
  simp [m_halves, mb_halves, c_MANY, e1, i2, h0, SZ, mkLst]
def flw (o f : Int) : Int := if f % (2 * mny o) = 0 then f + mny o else f - mny o
theorem fellow_i (hs : isz s = true) (ho : iso o = true) (hr : isr s o f = true) (h0 : o ≠ 3) : m_fellow [.int s, .tup [.int o, .int f]] h = .ok (.tup [.int o, .int (flw o f)]) h := by
  have e1 := cF_val0 (n := 2) rfl (look_run_i h hs ho hr)
  have i2 := mny_ix ho h
  have := mny_pos o
  have := mny_le o
  have e3 := mul_int 2 (mny o) h finV (.inl ⟨by decide, by decide⟩)
  have e4 := mod_int f (2 * mny o) h (by omega)
  by_cases z : f % (2 * mny o) = 0
  · simp [m_fellow, mb_fellow, c_MANY, c_MOST_ORDER, e1, i2, h0, e3, e4, z, flw, SZ]
  · simp [m_fellow, mb_fellow, c_MANY, c_MOST_ORDER, e1, i2, h0, e3, e4, z, flw, SZ]
def runL (s o : Int) : List MV := (List.range (s / mny o).toNat).map fun i => .tup [.int o, .int (0 + (i : Nat) * mny o)]
theorem pure_runL (s o : Int) : pureVs (runL s o) = true := pures_map (fun _ => by simp) _
theorem rgsz {s o : Int} (hs : isz s = true) (ho : iso o = true) : Builtin.Range.rangeSize 0 s (mny o) = s / mny o := by
  have := isz_le hs
  simp only [iso, Bool.and_eq_true, decide_eq_true_eq] at ho
  have : o = 0 ∨ o = 1 ∨ o = 2 ∨ o = 3 := by omega
  unfold Builtin.Range.rangeSize
  rcases this with rfl | rfl | rfl | rfl
  · show (if (1:Int) > 0 then (if 0 < s then (s - 0 - 1) / 1 + 1 else 0) else _) = s / 1
    rw [if_pos (by decide), if_pos (by omega)]; omega
  · show (if (2:Int) > 0 then (if 0 < s then (s - 0 - 1) / 2 + 1 else 0) else _) = s / 2
    rw [if_pos (by decide), if_pos (by omega)]; omega
  · show (if (4:Int) > 0 then (if 0 < s then (s - 0 - 1) / 4 + 1 else 0) else _) = s / 4
    rw [if_pos (by decide), if_pos (by omega)]; omega
  · show (if (8:Int) > 0 then (if 0 < s then (s - 0 - 1) / 8 + 1 else 0) else _) = s / 8
    rw [if_pos (by decide), if_pos (by omega)]; omega
theorem div_le (hs : isz s = true) : (s / mny o).toNat ≤ 64 ∧ 0 ≤ s / mny o := by
  have := isz_le hs
  have h1 := Int.ediv_le_self (mny o) (show 0 ≤ s by omega)
  have h2 := Int.ediv_nonneg (show 0 ≤ s by omega) (Int.le_of_lt (mny_pos o))
  omega
theorem runs_i (hs : isz s = true) (ho : iso o = true) : m_runs [.int s, .int o] h = .ok (.ref h.length) (h ++ [.lst (runL s o)]) := by
  have e1 := cF_val0 (n := 1) rfl (look_size_i h hs)
  have e2 := cF_val0 (n := 1) rfl (look_order_i h ho)
  have i2 := mny_ix ho h
  have hz := isz_le hs
  have hp := mny_pos o
  have hl := mny_le o
  have hd := div_le (o := o) hs
  have z : (inB 0 && inB s && decide (0 < mny o) && decide (mny o < 1000000)) = true := by
    rw [inB_of (by decide) (by decide), inB_of (i := s) (by omega) (by omega), decide_eq_true hp, decide_eq_true (show mny o < 1000000 by omega)]; rfl
  have z2 : (rgM 0 (mny o) (s / mny o).toNat).length ≤ SZ := by simp only [rgM, List.length_map, List.length_range]; exact Nat.le_trans hd.1 (by decide)
  have e5 : ∀ σ : Lo, clrL [2] [some (.int s), some (.int o), none] = σ → lcGo (fun _ => true) (.nm 2) mYes le_runs_0 (rgM 0 (mny o) (s / mny o).toNat) σ h = .ok (runL s o) h := fun σ hσ => by
    subst hσ
    exact lcGo_all rfl fun x hx => ⟨_, rfl, by simp [SZ, clrL, le_runs_0]⟩
  have e6 := e5 _ rfl
  simp [m_runs, mb_runs, c_MANY, e1, e2, i2, mLc, z, rgsz hs ho, z2, e6]
end
end MP

namespace MP
open PySem PySem.Spec PyProof.Rows L2
def frI (f m : Int) : List Int := (List.range m.toNat).map fun i => f + (i : Nat)
def frL (f m : Int) : List MV := (frI f m).map .int
theorem frL_eq (f m : Int) : rgL f (f + m) = frL f m := by
  unfold rgL frL frI
  rw [show (f + m - f) = m by omega, List.map_map]
  rfl
theorem frL_map (f m : Int) : frL f m = (List.range m.toNat).map fun i => MV.int (f + (i : Nat)) := by
  unfold frL frI; rw [List.map_map]; rfl
theorem pure_frL (f m : Int) : pureVs (frL f m) = true := pure_ints _
theorem len_frL (f o : Int) : (frL f (mny o)).length < SZ := by
  have := mny_le o
  rw [frL_map, List.length_map, List.length_range]
  exact Nat.lt_of_le_of_lt (show (mny o).toNat ≤ 8 by omega) (by decide)
theorem arith {s l f : Int} (hs : isz s = true) (hl : iso l = true) (h3 : l ≠ 3) (hr : isr s l f = true) :
    isr s l (flw l f) = true ∧ flw l (flw l f) = f ∧ isr s (l + 1) (f - f % mny (l + 1)) = true ∧ iso (l + 1) = true ∧ isortI (frI f (mny l) ++ frI (flw l f) (mny l)) = frI (f - f % mny (l + 1)) (mny (l + 1)) := by
  have h1 := isz_le hs
  have h2 := isr_le hr
  simp only [iso, Bool.and_eq_true, decide_eq_true_eq] at hl
  have : l = 0 ∨ l = 1 ∨ l = 2 := by omega
  have pw : ∀ a m : Int, (frI a m).Pairwise (· ≤ ·) := fun a m => by
    unfold frI
    rw [List.pairwise_map]
    refine List.Pairwise.imp ?_ List.pairwise_lt_range
    intro x y z; omega
  have app : ∀ a m : Int, 0 ≤ m → frI a m ++ frI (a + m) m = frI a (2 * m) := fun a m hm => by
    unfold frI
    rw [show (2 * m).toNat = m.toNat + m.toNat by omega, List.range_add, List.map_append, List.map_map]
    congr 1
    refine List.map_congr_left fun x _ => ?_
    simp only [Function.comp]
    omega
  have key : ∀ m : Int, 0 < m → flw l f = (if f % (2 * m) = 0 then f + m else f - m) → f % m = 0 → isortI (frI f m ++ frI (flw l f) m) = frI (f - f % (2 * m)) (2 * m) := fun m hm e hz => by
    by_cases z : f % (2 * m) = 0
    · rw [e, if_pos z, app f m (by omega), z, Int.sub_zero]
      exact isort_eq (.refl _) (pw _ _)
    · rw [e, if_neg z]
      have : f - f % (2 * m) = f - m := by
        have h5 := Int.emod_emod_of_dvd f (show m ∣ 2 * m from ⟨2, by omega⟩)
        rw [hz] at h5
        have h6 := Int.emod_nonneg f (show 2 * m ≠ 0 by omega)
        have h7 := Int.emod_lt_of_pos f (show 0 < 2 * m by omega)
        have h8 := Int.emod_add_mul_ediv (f % (2 * m)) m
        rw [h5] at h8
        have h9 : 0 < f % (2 * m) / m := by
          by_cases q : 0 < f % (2 * m) / m
          · exact q
          · have := Int.mul_le_mul_of_nonneg_left (show f % (2 * m) / m ≤ 0 by omega) (Int.le_of_lt hm)
            rw [Int.mul_zero] at this
            have h12 : f % (2 * m) = 0 := by omega
            exact absurd h12 z
        have h10 : f % (2 * m) / m < 2 := Int.ediv_lt_of_lt_mul hm h7
        have h11 : f % (2 * m) / m = 1 := by omega
        rw [h11] at h8
        omega
      rw [this]
      refine isort_eq ?_ (pw _ _)
      rw [← app (f - m) m (by omega), show f - m + m = f by omega]
      exact List.perm_append_comm
  have mm : mny (l + 1) = 2 * mny l := by rcases this with rfl | rfl | rfl <;> rfl
  refine ⟨?_, ?_, ?_, ?_, ?_⟩
  · rcases this with rfl | rfl | rfl <;> simp only [isr, flw, mny] at * <;> simp only [Bool.and_eq_true, decide_eq_true_eq] <;> simp at * <;> split <;> omega
  · rcases this with rfl | rfl | rfl <;> simp only [flw, mny] at * <;> simp at * <;> split <;> split <;> omega
  · rcases this with rfl | rfl | rfl <;> simp only [isr, mny] at * <;> simp only [Bool.and_eq_true, decide_eq_true_eq] <;> simp at * <;> omega
  · simp only [iso, Bool.and_eq_true, decide_eq_true_eq]; omega
  · rw [mm]; exact key (mny l) (mny_pos l) rfl h2.2.2

theorem seq_nx {a b : SM} {σ σ1 : Lo} {h h1 : MH} (e : a σ h = .nx σ1 h1) : sSeq a b σ h = b σ1 h1 := by unfold sSeq; rw [e]
theorem fnM_rt {N : Nat} {body : SM} {args : List MV} {h h' : MH} {v : MV} (e : body (args.map some ++ List.replicate (N - args.length) none) h = .rt v h') : fnM N body args h = .ok v h' := by unfold fnM; rw [e]
theorem fnM_nx {N : Nat} {body : SM} {args : List MV} {σ : Lo} {h h' : MH} (e : body (args.map some ++ List.replicate (N - args.length) none) h = .nx σ h') : fnM N body args h = .ok .non h' := by unfold fnM; rw [e]
def okO : Option MV → Bool
  | none => true
  | some v => pureV v
theorem toD_t2 (a b : Int) (h : MH) (k : Nat) : toD h (k + 2) (.tup [.int a, .int b]) = some (.tuple [.int a, .int b]) := rfl
theorem ne_t2 (a b : Int) (h : MH) : mNe (.tup [.int a, .int b]) (.tup [.int a, .int b]) h = .ok (.bl false) h := ne_okD (toD_t2 a b h 10) (toD_t2 a b h 10) rfl (by simp [PyData.depth, PyData.depthAll])
section
variable {s l f : Int} (h : MH)
theorem frames_F (hs : isz s = true) (hl : iso l = true) (hr : isr s l f = true) : cF 2 m_frames_of [.int s, .tup [.int l, .int f]] h = .ok (.lv (frL f (mny l))) h :=
  cF_new rfl (by rw [← frL_eq]; exact frames_of_i h hs hl hr) (pure_frL _ _)
theorem frames_R (hs : isz s = true) (hl : iso l = true) (hr : isr s l f = true) : cR 2 m_frames_of [.int s, .tup [.int l, .int f]] h = .ok (.ref h.length) (h ++ [.lst (frL f (mny l))]) :=
  cR_new rfl (by rw [← frL_eq]; exact frames_of_i h hs hl hr) (pure_frL _ _)
theorem ne_fr {a b : MV} {m : Int} (ea : asS a h = some (frL f m)) (eb : asS b h = some (frL f m)) (ta : ∀ l, a ≠ .tup l) (tb : ∀ l, b ≠ .tup l) : mNe a b h = .ok (.bl false) h :=
  ne_maps (xs := frI f m) (f := .int) (g := .int) (k := .int) ea eb ta tb (fun _ _ => rfl) (fun _ _ => rfl) (fun _ => by simp [okD]) (fun _ => by simp [PyData.depth])
theorem spot_i (σa σb : Option MV) (a b c : Option MV) (hs : isz s = true) (hl : iso l = true) (hr : isr s l f = true) {y : MV} (hy : y ∈ frL f (mny l)) :
    lb_law_right_0 [some (.int s), some (.int l), σa, σb, some (.tup [.int l, .int f]), some (.ref k), some y, a, b, c, none] h = .nx [some (.int s), some (.int l), σa, σb, some (.tup [.int l, .int f]), some (.ref k), some y, a, b, c, none] h := by
  rw [frL_map] at hy
  obtain ⟨i, hi, rfl⟩ := List.mem_map.mp hy
  have hi := List.mem_range.mp hi
  have h2 := isr_le hr
  have hz := isz_le hs
  have e : f + (i : Int) - (f + (i : Int)) % mny l = f ∧ 0 ≤ f + (i : Int) ∧ f + (i : Int) ≤ s - 1 := by
    simp only [iso, Bool.and_eq_true, decide_eq_true_eq] at hl
    have : l = 0 ∨ l = 1 ∨ l = 2 ∨ l = 3 := by omega
    rcases this with rfl | rfl | rfl | rfl <;> simp [mny] at * <;> omega
  have e1 := cF_val0 (n := 3) rfl (run_with_i h hs hl e.2.1 e.2.2)
  rw [e.1] at e1
  simp [lb_law_right_0, e1, ne_t2, g_kb_run_with_210]
theorem one_i (r : MV) (a b c : Option MV) (hs : isz s = true) (hl : iso l = true) (hr : isr s l f = true) (ha : okO a = true) (hb : okO b = true) (hc : okO c = true) :
    ∃ a' b' c', okO a' = true ∧ okO b' = true ∧ okO c' = true ∧ lb_law_right_1 [some (.int s), some (.int l), some (.int (mny l)), some r, some (.tup [.int l, .int f]), none, none, a, b, c, none] h
      = .nx [some (.int s), some (.int l), some (.int (mny l)), some r, some (.tup [.int l, .int f]), some (.ref h.length), none, a', b', c', none] (h ++ [.lst (frL f (mny l) ++ [.int 0])]) := by
  have e1 := frames_R (s := s) (l := l) (f := f) h hs hl hr
  have e2 : lcGo (fun _ => true) (.nm 10) mYes le_law_right_0 (rgM 0 1 (mny l).toNat) (clrL [10] [some (.int s), some (.int l), some (.int (mny l)), some r, some (.tup [.int l, .int f]), some (.ref h.length), none, a, b, c, none]) (h ++ [.lst (frL f (mny l))]) = .ok (frL f (mny l)) (h ++ [.lst (frL f (mny l))]) := by
    conv => rhs; arg 1; rw [frL_map]
    exact lcGo_all rfl fun x hx => ⟨_, rfl, by
      have i1 : ∀ hp, mIxA (.tup [.int l, .int f]) (.int 1) hp = .ok (.int f) hp := fun _ => rfl
      simp [le_law_right_0, clrL, i1]⟩
  have q1 := asS_new h (frL f (mny l))
  have e3 : mNe (.ref h.length) (.lv (frL f (mny l))) (h ++ [.lst (frL f (mny l))]) = .ok (.bl false) (h ++ [.lst (frL f (mny l))]) := ne_fr _ q1 rfl (by intro _ z; cases z) (by intro _ z; cases z)
  have e4 := frames_F (s := s) (l := l) (f := f) (h ++ [.lst (frL f (mny l))]) hs hl hr
  have e5 : mNe (.lv (frL f (mny l))) (.ref h.length) (h ++ [.lst (frL f (mny l))]) = .ok (.bl false) (h ++ [.lst (frL f (mny l))]) := ne_fr _ rfl q1 (by intro _ z; cases z) (by intro _ z; cases z)
  have e6 : mMeth mAppend (mVar 5) (mCons (mC (.int 0)) mNil) [some (.int s), some (.int l), some (.int (mny l)), some r, some (.tup [.int l, .int f]), some (.ref h.length), none, a, b, c, none] (h ++ [.lst (frL f (mny l))]) = .ok .non (h ++ [.lst (frL f (mny l) ++ [.int 0])]) := m_append (by simp) (by simp) (len_frL f l)
  generalize hG : h ++ [MO.lst (frL f (mny l) ++ [.int 0])] = G2 at *
  have e7 := frames_F (s := s) (l := l) (f := f) G2 hs hl hr
  have e8 : mSl finV (.ref h.length) none (some (-1)) G2 = .ok (.lv (frL f (mny l))) G2 := by rw [← hG]; exact sl_last h _ _
  have e9 : mNe (.lv (frL f (mny l))) (.lv (frL f (mny l))) G2 = .ok (.bl false) G2 := ne_fr _ rfl rfl (by intro _ z; cases z) (by intro _ z; cases z)
  have e10 : forGo (fun _ => true) (gmName 6) (sGc [6] lb_law_right_0) (frL f (mny l)) [some (.int s), some (.int l), some (.int (mny l)), some r, some (.tup [.int l, .int f]), some (.ref h.length), none, a, b, c, none] G2 = .nx [some (.int s), some (.int l), some (.int (mny l)), some r, some (.tup [.int l, .int f]), some (.ref h.length), none, a, b, c, none] G2 :=
    forGo_same rfl fun y hy => ⟨_, rfl, sGc_same (spot_i G2 _ _ a b c hs hl hr hy)⟩
  have hm : inB (mny l) = true := inB_of (by have := mny_pos l; omega) (by have := mny_le l; omega)
  have z2 : (rgM 0 1 (mny l).toNat).length ≤ SZ := by
    have := mny_le l
    simp only [rgM, List.length_map, List.length_range]; exact Nat.le_trans (show (mny l).toNat ≤ 8 by omega) (by decide)
  have i1 : mIxA (.tup [.int l, .int f]) (.int 1) G2 = .ok (.int f) G2 := rfl
  have hl' : 0 ≤ l ∧ l ≤ 3 := by simpa only [iso, Bool.and_eq_true, decide_eq_true_eq] using hl
  have A : ∃ a', okO a' = true ∧ (sIf (mB (m2 mGt (mVar 1) (mC (.int 0))))
      (sSeq (sSet 7 (mN (fun as h => match cF 2 m_halves (g_kb_halves_10 as) h with | .ok v h' => .ok v h' | _ => .bad) (mCons (mVar 4) (mCons (mVar 0) mNil))))
      (sIf (mOr (mB (m2 mNe (mVar 7) (mN mkLv (mCons (mN mkTup (mCons (m2 mSubI (mVar 1) (mC (.int 1))) (mCons (m2 mIxA (mVar 4) (mC (.int 1))) mNil))) (mCons (mN mkTup (mCons (m2 mSubI (mVar 1) (mC (.int 1))) (mCons (m2 (mAdd finV) (m2 mIxA (mVar 4) (mC (.int 1))) (m2 mDivI (mVar 2) (mC (.int 2)))) mNil))) mNil))))) (mB (m2 mNe (mN (cF 2 m_halves) (mCons (mVar 0) (mCons (mVar 4) mNil))) (mVar 7))))
      (sRet (mC (.bl false)))
      sNil)) sNil) [some (.int s), some (.int l), some (.int (mny l)), some r, some (.tup [.int l, .int f]), some (.ref h.length), none, a, b, c, none] G2 = .nx [some (.int s), some (.int l), some (.int (mny l)), some r, some (.tup [.int l, .int f]), some (.ref h.length), none, a', b, c, none] G2 := by
    by_cases z : 0 < l
    · have e11 := cF_new (n := 2) rfl (halves_i G2 hs hl hr (by omega)) (by simp)
      have e12 := div_int (mny l) 2 G2 (by decide) (by decide)
      have e13 : mny l / 2 = mny (l - 1) := by
        have : l = 1 ∨ l = 2 ∨ l = 3 := by omega
        rcases this with rfl | rfl | rfl <;> rfl
      rw [e13] at e12
      have e14 : mNe (.lv [.tup [.int (l - 1), .int f], .tup [.int (l - 1), .int (f + mny (l - 1))]]) (.lv [.tup [.int (l - 1), .int f], .tup [.int (l - 1), .int (f + mny (l - 1))]]) G2 = .ok (.bl false) G2 :=
        ne_okD (d := .list [.tuple [.int (l - 1), .int f], .tuple [.int (l - 1), .int (f + mny (l - 1))]]) rfl rfl (by simp [okD, okDs]) (by simp [PyData.depth, PyData.depthAll])
      exact ⟨some (.lv [.tup [.int (l - 1), .int f], .tup [.int (l - 1), .int (f + mny (l - 1))]]), by simp [okO], by simp [z, g_kb_halves_10, e11, e12, e14, i1, SZ, mkLv]⟩
    · exact ⟨a, ha, by simp [z]⟩
  obtain ⟨a', ha', eA⟩ := A
  have B : ∃ b' c', okO b' = true ∧ okO c' = true ∧ (sIf (mB (m2 mLt (mVar 1) (mC (.int 3))))
      (sSeq (sSet 8 (mN (cF 2 m_fellow) (mCons (mVar 0) (mCons (mVar 4) mNil))))
      (sSeq (sSet 9 (mN (mSort finV) (mCons (m2 (mAdd finV) (mN (cF 2 m_frames_of) (mCons (mVar 0) (mCons (mVar 4) mNil))) (mN (cF 2 m_frames_of) (mCons (mVar 0) (mCons (mVar 8) mNil)))) mNil)))
      (sIf (mOr (mB (m2 mNe (mN (cF 2 m_frames_of) (mCons (mVar 0) (mCons (mN (cF 3 m_run_with) (mCons (mVar 0) (mCons (m2 (mAdd finV) (mVar 1) (mC (.int 1))) (mCons (m2 mIxA (mVar 4) (mC (.int 1))) mNil)))) mNil))) (mVar 9))) (mB (m2 mNe (mN (fun as h => match cF 2 m_fellow (g_kb_fellow_10 as) h with | .ok v h' => .ok v h' | _ => .bad) (mCons (mVar 8) (mCons (mVar 0) mNil))) (mVar 4))))
      (sRet (mC (.bl false)))
      sNil))) sNil) [some (.int s), some (.int l), some (.int (mny l)), some r, some (.tup [.int l, .int f]), some (.ref h.length), none, a', b, c, none] G2 = .nx [some (.int s), some (.int l), some (.int (mny l)), some r, some (.tup [.int l, .int f]), some (.ref h.length), none, a', b', c', none] G2 := by
    by_cases z : l < 3
    · obtain ⟨p1, p2, p3, p4, p5⟩ := arith hs hl (by omega) hr
      have h2 := isr_le hr
      have e15 := cF_val0 (n := 2) rfl (fellow_i G2 hs hl hr (by omega))
      have e16 := frames_F (f := flw l f) G2 hs hl p1
      have e17 : mAdd finV (.lv (frL f (mny l))) (.lv (frL (flw l f) (mny l))) G2 = .ok (.lv ((frI f (mny l) ++ frI (flw l f) (mny l)).map .int)) G2 := by
        have n1 := len_frL f l
        have : (frL f (mny l)).length + (frL (flw l f) (mny l)).length ≤ SZ := by
          have := mny_le l
          simp only [frL_map, List.length_map, List.length_range]
          exact Nat.le_trans (show (mny l).toNat + (mny l).toNat ≤ 16 by omega) (by decide)
        show (match asL (.lv (frL f (mny l))) G2, asL (.lv (frL (flw l f) (mny l))) G2 with | some l, some r => if l.length + r.length ≤ SZ then finV (l ++ r) G2 else .bad | _, _ => .bad) = _
        simp only [asL, if_pos this, finV]
        rw [List.map_append]; rfl
      have e18 : mSort finV [.lv ((frI f (mny l) ++ frI (flw l f) (mny l)).map .int)] G2 = .ok (.lv (frL (f - f % mny (l + 1)) (mny (l + 1)))) G2 := by
        simp only [mSort, mSortI, asS, ints?_map, p5, finV]; rfl
      have e19 := cF_val0 (n := 3) rfl (run_with_i G2 hs p4 h2.1 h2.2.1)
      have e20 := frames_F G2 hs p4 p3
      have e21 : mNe (.lv (frL (f - f % mny (l + 1)) (mny (l + 1)))) (.lv (frL (f - f % mny (l + 1)) (mny (l + 1)))) G2 = .ok (.bl false) G2 := ne_fr _ rfl rfl (by intro _ z; cases z) (by intro _ z; cases z)
      have e22 := cF_val0 (n := 2) rfl (fellow_i G2 hs hl p1 (by omega))
      rw [p2] at e22
      refine ⟨some (.tup [.int l, .int (flw l f)]), some (.lv (frL (f - f % mny (l + 1)) (mny (l + 1)))), by simp [okO], by simp [okO, pure_frL], ?_⟩
      simp [z, g_kb_fellow_10, e15, e16, e7, e17, e18, e19, e20, e21, e22, i1, ne_t2, -List.map_append]
    · exact ⟨b, c, hb, hc, by simp [z]⟩
  obtain ⟨b', c', hb', hc', eB⟩ := B
  refine ⟨a', b', c', ha', hb', hc', ?_⟩
  unfold lb_law_right_1
  refine (seq_nx (σ1 := [some (.int s), some (.int l), some (.int (mny l)), some r, some (.tup [.int l, .int f]), some (.ref h.length), none, a, b, c, none]) (h1 := h ++ [.lst (frL f (mny l))]) (by simp [e1])).trans ?_
  refine (seq_nx (σ1 := [some (.int s), some (.int l), some (.int (mny l)), some r, some (.tup [.int l, .int f]), some (.ref h.length), none, a, b, c, none]) (h1 := h ++ [.lst (frL f (mny l))]) (by simp [mLc, hm, z2, e2, e3, e4, e5, g_kb_frames_of_10])).trans ?_
  refine (seq_nx (σ1 := [some (.int s), some (.int l), some (.int (mny l)), some r, some (.tup [.int l, .int f]), some (.ref h.length), none, a, b, c, none]) (h1 := G2) (by unfold sExpr; rw [e6]; rfl)).trans ?_
  refine (seq_nx (σ1 := [some (.int s), some (.int l), some (.int (mny l)), some r, some (.tup [.int l, .int f]), some (.ref h.length), none, a, b, c, none]) (h1 := G2) (by simp [e7, e8, e9])).trans ?_
  refine (seq_nx (σ1 := [some (.int s), some (.int l), some (.int (mny l)), some r, some (.tup [.int l, .int f]), some (.ref h.length), none, a, b, c, none]) (h1 := G2) (by simp [e8, itL, e10])).trans ?_
  exact (seq_nx eA).trans eB
end

section
variable {s l : Int} (h : MH)
theorem runs_div (hs : isz s = true) (hl : iso l = true) {i : Nat} (hi : i < (s / mny l).toNat) : isr s l (0 + (i : Int) * mny l) = true := by
  have hz := isz_le hs
  simp only [iso, Bool.and_eq_true, decide_eq_true_eq] at hl
  have : l = 0 ∨ l = 1 ∨ l = 2 ∨ l = 3 := by omega
  rcases this with rfl | rfl | rfl | rfl <;> simp [mny, isr] at * <;> omega
theorem right_i (hs : isz s = true) (hl : iso l = true) : m_law_right [.int s, .int l] h = .ok (.bl true) (h ++ [.lst (runL s l ++ [.non])]) := by
  have hz := isz_le hs
  have hp := mny_pos l
  have hle := mny_le l
  have hd := div_le (o := l) hs
  have hrl : (runL s l).length = (s / mny l).toNat := by unfold runL; rw [List.length_map, List.length_range]
  have hsz : (runL s l).length < SZ := by rw [hrl]; exact Nat.lt_of_le_of_lt hd.1 (by decide)
  have d0 : mIxA (.lv [.int 1, .int 2, .int 4, .int 8]) (.int l) h = .ok (.int (mny l)) h := by
    simp only [iso, Bool.and_eq_true, decide_eq_true_eq] at hl
    have : l = 0 ∨ l = 1 ∨ l = 2 ∨ l = 3 := by omega
    rcases this with rfl | rfl | rfl | rfl <;> rfl
  have d1 := cR_new (n := 2) rfl (runs_i h hs hl) (pure_runL s l)
  have d2 : ∀ G, mDivI (.int s) (.int (mny l)) G = .ok (.int (s / mny l)) G := fun G => div_int _ _ G hp (by omega)
  have hin : inB (s / mny l) = true := inB_of (by omega) (by omega)
  have z2 : (rgM 0 1 (s / mny l).toNat).length ≤ SZ := by
    simp only [rgM, List.length_map, List.length_range]; exact Nat.le_trans hd.1 (by decide)
  have e2 : lcGo (fun _ => true) (.nm 10) mYes le_law_right_2 (rgM 0 1 (s / mny l).toNat) (clrL [10] [some (.int s), some (.int l), some (.int (mny l)), some (.ref h.length), none, none, none, none, none, none, none]) (h ++ [.lst (runL s l)]) = .ok (runL s l) (h ++ [.lst (runL s l)]) :=
    lcGo_all rfl fun x hx => ⟨_, rfl, by
      have e := mul_int (mny l) (0 + (x : Int) * 1) (h ++ [.lst (runL s l)]) finV (.inl ⟨by omega, by omega⟩)
      have e' : mny l * (x : Int) = x * mny l := Int.mul_comm _ _
      simp at e
      simp [le_law_right_2, clrL, e, SZ, e']⟩
  have ne_runs : ∀ (a b : MV) (G : MH), asS a G = some (runL s l) → asS b G = some (runL s l) → (∀ l, a ≠ .tup l) → (∀ l, b ≠ .tup l) → mNe a b G = .ok (.bl false) G := fun a b G ea eb ta tb =>
    ne_maps (xs := List.range (s / mny l).toNat) (k := fun i => .tuple [.int l, .int (0 + (i : Nat) * mny l)]) ea eb ta tb (fun _ _ => toD_t2 _ _ _ _) (fun _ _ => toD_t2 _ _ _ _) (fun _ => by simp [okD, okDs]) (fun _ => by simp [PyData.depth, PyData.depthAll])
  have e3 := ne_runs (.ref h.length) (.lv (runL s l)) (h ++ [.lst (runL s l)]) (asS_new h _) rfl (by intro _ z; cases z) (by intro _ z; cases z)
  have e6 : mMeth mAppend (mVar 3) (mCons (mC .non) mNil) [some (.int s), some (.int l), some (.int (mny l)), some (.ref h.length), none, none, none, none, none, none, none] (h ++ [.lst (runL s l)]) = .ok .non (h ++ [.lst (runL s l ++ [.non])]) := m_append (by simp) (by simp) hsz
  generalize hG : h ++ [MO.lst (runL s l ++ [.non])] = G2 at *
  have e7 := cF_new (n := 2) rfl (runs_i G2 hs hl) (pure_runL s l)
  have e8 : mSl finV (.ref h.length) none (some (-1)) G2 = .ok (.lv (runL s l)) G2 := by rw [← hG]; exact sl_last h _ _
  have e9 : mLen [.lv (runL s l)] G2 = .ok (.int (s / mny l)) G2 := by
    show R.ok (MV.int (runL s l).length) G2 = _
    rw [hrl]; congr 2; omega
  have e10 := cF_val0 (n := 1) rfl (is_size_i s G2)
  have e11 := cF_val0 (n := 1) rfl (is_order_i l G2)
  have e12 : lcGo (fun _ => true) (.nm 4) lt_law_right_0 le_law_right_1 (runL s l) (clrL [4] [some (.int s), some (.int l), some (.int (mny l)), some (.ref h.length), none, none, none, none, none, none, none]) G2 = .ok [] G2 := by
    have := lcGo_map (chk := fun _ => true) (p := .nm 4) (t := lt_law_right_0) (e := le_law_right_1) (σ := clrL [4] [some (.int s), some (.int l), some (.int (mny l)), some (.ref h.length), none, none, none, none, none, none, none]) (h := G2) rfl (q := fun i : Nat => MV.tup [.int l, .int (0 + (i : Int) * mny l)]) (b := fun _ => false) (f := fun _ => .non) (l := List.range (s / mny l).toNat) (fun x hx => ⟨_, rfl, by
      have := cF_val0 (n := 2) rfl (is_run_i (f := 0 + (x : Int) * mny l) G2 hs hl)
      rw [runs_div hs hl (List.mem_range.mp hx)] at this
      simp at this
      simp [lt_law_right_0, clrL, g_kb_is_run_10, this], fun z => by cases z⟩)
    rw [List.filter_eq_nil_iff.mpr (by simp)] at this
    exact this
  have e13 : mNe (.lv []) (.lv []) G2 = .ok (.bl false) G2 := rfl
  have cl : h.length < G2.length := by rw [← hG]; simp
  have e14 := forGo_inv (chk := fun _ => true) (g := gmName 4) (body := sGc [4, 5, 6] lb_law_right_1)
    (fun xs σ G => G = G2 ∧ (∀ x ∈ xs, x ∈ runL s l) ∧ ∃ a b c, okO a = true ∧ okO b = true ∧ okO c = true ∧ σ = [some (.int s), some (.int l), some (.int (mny l)), some (.ref h.length), none, none, none, a, b, c, none])
    (fun x xs σ G ⟨hg, hx, a, b, c, ha, hb, hc, hσ⟩ => by
      subst hg hσ
      obtain ⟨i, hi, rfl⟩ := List.mem_map.mp (hx x List.mem_cons_self)
      obtain ⟨a', b', c', ha', hb', hc', e⟩ := one_i G (.ref h.length) a b c hs hl (runs_div hs hl (List.mem_range.mp hi)) ha hb hc
      refine ⟨rfl, _, _, rfl, _, _, sGc_app e ?_, rfl, fun y hy => hx y (List.mem_cons_of_mem _ hy), a', b', c', ha', hb', hc', rfl⟩
      have ho : ∀ o, okO o = true → ∀ L, clL G.length (o :: L) = clL G.length L := fun o q L => by
        cases o with
        | none => rfl
        | some v => simp only [clL, cl_pure _ (show pureV v = true from q), Bool.true_and]
      show clL G.length [some (.int s), some (.int l), some (.int (mny l)), some (.ref h.length), none, none, none, a', b', c', none] = true
      simp [clL, cl, ho a' ha', ho b' hb', ho c' hc', clV])
    (fun _ _ _ => rfl) (runL s l) _ G2 ⟨rfl, fun x hx => hx, none, none, none, rfl, rfl, rfl, rfl⟩
  obtain ⟨σ', h', e14, rfl, -⟩ := e14
  have T : mb_law_right [some (.int s), some (.int l), none, none, none, none, none, none, none, none, none] h = .rt (.bl true) h' := by
    unfold mb_law_right
    refine (seq_nx (σ1 := [some (.int s), some (.int l), some (.int (mny l)), none, none, none, none, none, none, none, none]) (h1 := h) (by simp [mkLv, SZ, d0])).trans ?_
    refine (seq_nx (σ1 := [some (.int s), some (.int l), some (.int (mny l)), some (.ref h.length), none, none, none, none, none, none, none]) (h1 := h ++ [.lst (runL s l)]) (by simp [d1])).trans ?_
    refine (seq_nx (σ1 := [some (.int s), some (.int l), some (.int (mny l)), some (.ref h.length), none, none, none, none, none, none, none]) (h1 := h ++ [.lst (runL s l)]) (by simp [mLc, d2, hin, z2, e2, e3])).trans ?_
    refine (seq_nx (σ1 := [some (.int s), some (.int l), some (.int (mny l)), some (.ref h.length), none, none, none, none, none, none, none]) (h1 := h') (by unfold sExpr; rw [e6]; rfl)).trans ?_
    refine (seq_nx (σ1 := [some (.int s), some (.int l), some (.int (mny l)), some (.ref h.length), none, none, none, none, none, none, none]) (h1 := h') (by simp [g_kb_runs_10, e7, e9, d2])).trans ?_
    refine (seq_nx (σ1 := [some (.int s), some (.int l), some (.int (mny l)), some (.ref h.length), none, none, none, none, none, none, none]) (h1 := h') (by simp [g_kb_is_size_0, g_kb_is_order_0, e10, e11, hs, hl])).trans ?_
    refine (seq_nx (σ1 := [some (.int s), some (.int l), some (.int (mny l)), some (.ref h.length), none, none, none, none, none, none, none]) (h1 := h') (by simp [e8, itL, mLc, Nat.le_of_lt hsz, e12, mkLv, e13])).trans ?_
    refine (seq_nx (σ1 := σ') (h1 := h') (by simp [e8, itL, e14])).trans ?_
    rfl
  exact fnM_rt T
end
/-! the script's numbers -/
def drawn (h : MH) (n : Nat) : Prop := ∃ a b : Int, h[n]? = some (.lst [.int a, .int b])
theorem pool_i (ns : List Int) (k : Int) (h0 : 0 ≤ k) (h1 : k < 1000) (h2 : ns.length ≤ 63) (h : MH) : ∃ a b : Int, m_law_pool [.fz (ns.map .int), .int k] h = .ok (.ref h.length) (h ++ [.lst [.int a, .int b]]) := by
  have el : mLen [.fz (ns.map .int)] h = .ok (.int ns.length) h := by
    show R.ok (MV.int (ns.map MV.int).length) h = _
    rw [List.length_map]
  have e7 : ∀ c : Int, mModI (.int c) (.int 2147483629) h = .ok (.int (c % 2147483629)) h := fun c => mod_int _ _ h (by decide)
  have e8 : ∀ c : Int, mModI (.int c) (.int 2147483647) h = .ok (.int (c % 2147483647)) h := fun c => mod_int _ _ h (by decide)
  have mm1 : mMul finV (.int 7919) (.int k) h = .ok (.int (7919 * k)) h := mul_int _ _ _ _ (.inl ⟨by decide, by decide⟩)
  have mm2 : mMul finV (.int (7919 * k)) (.int k) h = .ok (.int (7919 * k * k)) h := mul_int _ _ _ _ (.inr ⟨by omega, by omega⟩)
  have mm3 : mMul finV (.int 31) (.int k) h = .ok (.int (31 * k)) h := mul_int _ _ _ _ (.inl ⟨by decide, by decide⟩)
  have mm4 : ∀ c : Int, mMul finV (.int c) (.int 48271) h = .ok (.int (c * 48271)) h := fun c => mul_int _ _ _ _ (.inr ⟨by decide, by decide⟩)
  have ep : mPowI (.int 10) (.int 18) h = .ok (.int (10 ^ 18)) h := by
    simp [mPowI, iop]
  have ei : ∀ b : Bool, mInt [.bl b] h = .ok (.int (if b then 1 else 0)) h := fun _ => rfl
  have mm5 : ∀ (c : Int) (b : Bool), mMul finV (.int c) (.int (if b then 1 else 0)) h = .ok (.int (c * (if b then 1 else 0))) h := fun c b => mul_int _ _ _ _ (.inr ⟨by cases b <;> decide, by cases b <;> decide⟩)
  have key : ∀ c : Int, ∀ σ, σ = [some (.fz (ns.map .int)), some (.int k), some (.int c), none, none] → ∃ a b : Int, (sSeq (sSet 3 (mN mMax (mCons (mVar 2) (mCons (m2 mSubI (m1 mNeg (mC (.int 1))) (mVar 2)) mNil))))
    (sSeq (sSet 4 (m2 mModI (m2 (mMul finV) (m2 (mAdd finV) (m2 (mAdd finV) (m2 (mAdd finV) (m2 mModI (mVar 3) (mC (.int 2147483629))) (m2 (mMul finV) (m2 (mMul finV) (mC (.int 7919)) (mVar 1)) (mVar 1))) (m2 (mMul finV) (mC (.int 31)) (mVar 1))) (mC (.int 17))) (mC (.int 48271))) (mC (.int 2147483647))))
    (sRet (mN mkLst (mCons (m2 (mMul finV) (mVar 3) (mN mInt (mCons (m2 mGe (mVar 3) (m2 mPowI (mC (.int 10)) (mC (.int 18)))) mNil))) (mCons (mVar 4) mNil)))))) σ h = .rt (.ref h.length) (h ++ [.lst [.int a, .int b]]) := fun c σ hσ => by
    subst hσ
    simp only [sSeq, sSet, mN, mCons, mVar, mNil, m2, m1, mC, bindR_ok, bindS_ok, List.getElem?_cons_zero, List.getElem?_cons_succ, neg_int, sub_int, mMax, List.set_cons_succ, List.set_cons_zero, e7, e8, mm1, mm2, mm3, mm4, add_int, sRet, ge_int, ep, ei, mm5, mkLst, List.length_cons, List.length_nil, SZ]
    exact ⟨_, _, rfl⟩
  suffices T : ∃ a b : Int, mb_law_pool [some (.fz (ns.map .int)), some (.int k), none, none, none] h = .rt (.ref h.length) (h ++ [.lst [.int a, .int b]]) by
    obtain ⟨a, b, e⟩ := T
    exact ⟨a, b, fnM_rt e⟩
  unfold mb_law_pool
  by_cases z : k < ns.length
  · have eix : mIxA (.fz (ns.map .int)) (.int k) h = .ok (.int (ns[k.toNat]'(by omega))) h := by
      have e0 : isDk (.fz (ns.map .int)) h = false := rfl
      unfold mIxA
      rw [e0]
      simp only [Bool.false_eq_true, if_false]
      have hk : k.toNat < ns.length := by omega
      unfold mIx
      simp only [asS, atI, L2.ixN, List.length_map, if_pos h0, if_pos z, Option.bind_some, List.getElem?_map, List.getElem?_eq_getElem hk, Option.map_some]
    obtain ⟨a, b, e⟩ := key _ _ rfl
    refine ⟨a, b, ?_⟩
    rw [seq_nx (σ1 := [some (.fz (ns.map .int)), some (.int k), some (.int 0), none, none]) (h1 := h) (by simp), seq_nx (σ1 := [some (.fz (ns.map .int)), some (.int k), some (.int (ns[k.toNat]'(by omega))), none, none]) (h1 := h) (by simp [el, z, eix])]
    exact e
  · obtain ⟨a, b, e⟩ := key 0 _ rfl
    refine ⟨a, b, ?_⟩
    rw [seq_nx (σ1 := [some (.fz (ns.map .int)), some (.int k), some (.int 0), none, none]) (h1 := h) (by simp), seq_nx (σ1 := [some (.fz (ns.map .int)), some (.int k), some (.int 0), none, none]) (h1 := h) (by simp [el, z])]
    exact e
end MP

namespace MP
open PySem PySem.Spec PyProof.Rows L2
theorem ixA_lst {h : MH} {n : Nat} {l : List MV} {k : Int} {v : MV} (e : h[n]? = some (.lst l)) (ev : atI l k = some v) : mIxA (.ref n) (.int k) h = .ok v h := by
  have e0 : isDk (.ref n) h = false := by unfold isDk asD; simp only [e]; rfl
  unfold mIxA mIx asS
  rw [e0]
  simp only [Bool.false_eq_true, if_false, e, ev]
theorem setA_lst {rv ro ri : EM} {σ : Lo} {h : MH} {n j : Nat} {l : List MV} {k : Int} {v : MV} (ev : rv σ h = .ok v h) (eo : ro σ h = .ok (.ref n) h) (ei : ri σ h = .ok (.int k) h) (e : h[n]? = some (.lst l)) (ej : ixN l.length k = some j) : sSetA rv ro ri σ h = .nx σ (h.set n (.lst (l.set j v))) := by
  have e0 : isDct (.ref n) h = false := by unfold isDct; simp only [e]
  unfold sSetA
  rw [ev, bindS_ok, eo, bindS_ok, ei, bindS_ok, e0]
  simp only [Bool.false_eq_true, if_false, sSetIx, bindS_ok, e, ej, setH]
theorem draw_i {h : MH} {n : Nat} {a b m : Int} (e : h[n]? = some (.lst [.int a, .int b])) (hm : 0 < m) (hm2 : m < 1073741824) : ∃ d a' b' : Int, m_law_draw [.ref n, .int m] h = .ok (.int d) (h.set n (.lst [.int a', .int b'])) ∧ 0 ≤ d ∧ d < m := by
  have i0 : mIxA (.ref n) (.int 0) h = .ok (.int a) h := ixA_lst e rfl
  have i1 : mIxA (.ref n) (.int 1) h = .ok (.int b) h := ixA_lst e rfl
  by_cases z : 0 < a
  · refine ⟨a % m, a / m, b, ?_, Int.emod_nonneg _ (by omega), Int.emod_lt_of_pos _ hm⟩
    refine fnM_rt ?_
    have s1 : sSetA (m2 mDivI (m2 mIxA (mVar 0) (mC (.int 0))) (mVar 1)) (mVar 0) (mC (.int 0)) [some (.ref n), some (.int m), some (.int (a % m))] h = .nx [some (.ref n), some (.int m), some (.int (a % m))] (h.set n (.lst [.int (a / m), .int b])) :=
      setA_lst (v := .int (a / m)) (k := 0) (by simp [i0, div_int a m h hm hm2]) (by simp) rfl e rfl
    show mb_law_draw [some (.ref n), some (.int m), none] h = _
    simp [mb_law_draw, i0, z, mod_int a m h hm, s1]
  · generalize hb' : (b * 69621 + 7) % 2147483647 = b'
    have q1 : 0 ≤ b' := by rw [← hb']; exact Int.emod_nonneg _ (by decide)
    have q2 : b' < 2147483647 := by rw [← hb']; exact Int.emod_lt_of_pos _ (by decide)
    have e' : (h.set n (.lst [.int a, .int b']))[n]? = some (.lst [.int a, .int b']) := by
      obtain ⟨hn, _⟩ := List.getElem?_eq_some_iff.mp e
      rw [List.getElem?_set_self hn]
    generalize hh' : h.set n (.lst [.int a, .int b']) = h' at e'
    have i1' : mIxA (.ref n) (.int 1) h' = .ok (.int b') h' := ixA_lst e' rfl
    have s1 : sSetA (m2 mModI (m2 (mAdd finV) (m2 (mMul finV) (m2 mIxA (mVar 0) (mC (.int 1))) (mC (.int 69621))) (mC (.int 7))) (mC (.int 2147483647))) (mVar 0) (mC (.int 1)) [some (.ref n), some (.int m), none] h = .nx [some (.ref n), some (.int m), none] h' := by
      rw [← hh']
      refine setA_lst (v := .int b') (k := 1) (l := [.int a, .int b]) ?_ (by simp) rfl e rfl
      have mm := mul_int b 69621 h finV (.inr ⟨by decide, by decide⟩)
      have md := mod_int (b * 69621 + 7) 2147483647 h (by decide)
      simp [i1, mm, md, hb']
    refine ⟨b' * b' % 2147483629 / 32 % m, a, b', ?_, Int.emod_nonneg _ (by omega), Int.emod_lt_of_pos _ hm⟩
    rw [hh']
    refine fnM_rt ?_
    have mm := mul_int b' b' h' finV (.inl ⟨by omega, by omega⟩)
    have md := mod_int (b' * b') 2147483629 h' (by decide)
    have dv := div_int (b' * b' % 2147483629) 32 h' (by decide) (by decide)
    have mk := mod_int (b' * b' % 2147483629 / 32) m h' hm
    show mb_law_draw [some (.ref n), some (.int m), none] h = _
    simp [mb_law_draw, i0, z, s1, i1', mm, md, dv, mk]
theorem cF_keep {n : Nat} {m : List MV → MH → R MV} {as : List MV} {h h' : MH} {v : MV} (hl : as.length = n) (e : m as h = .ok v h') (q : h'.length ≤ h.length) : cF n m as h = .ok v h' := by
  unfold cF; rw [if_pos hl, e, bindR_ok]; unfold gcF; rw [if_pos q]
theorem law_all (ns : List Int) (hn : ns.length ≤ 63) : ∃ h', m_law [.fz (ns.map .int)] [] = .ok (.bl true) h' := by
  refine ⟨[], fnM_rt ?_⟩
  show mb_law [some (.fz (ns.map .int)), none, none, none, none] [] = _
  have el : mLen [.fz (ns.map .int)] [] = .ok (.int ns.length) [] := by
    show R.ok (MV.int (ns.map MV.int).length) [] = _
    rw [List.length_map]
  have turn : ∀ k : Int, 0 ≤ k → k < 1000 → sGc [1, 2, 3, 4] lb_law_1 [some (.fz (ns.map .int)), some (.int k), none, none, none] [] = .nx [some (.fz (ns.map .int)), none, none, none, none] [] := fun k h0 h1 => by
    obtain ⟨a, b, e1⟩ := pool_i ns k h0 h1 hn []
    have e1 := cR_new (n := 2) rfl e1 (by simp)
    obtain ⟨d, a', b', e2, d0, d1⟩ := draw_i (h := [] ++ [.lst [.int a, .int b]]) (n := 0) (m := 8) rfl (by decide) (by decide)
    have e2 := cF_keep (n := 2) rfl e2 (by simp)
    have sz : isz (8 * (1 + d)) = true := by
      simp only [isz, Bool.and_eq_true, decide_eq_true_eq]; omega
    have m1' : ∀ G, mMul finV (.int 8) (.int (1 + d)) G = .ok (.int (8 * (1 + d))) G := fun G => mul_int _ _ _ _ (.inl ⟨by decide, by decide⟩)
    have e3 := forGo_same (chk := fun _ => true) (g := gmName 4) (body := sGc [4] lb_law_0) (σ := [some (.fz (ns.map .int)), some (.int k), some (.ref 0), some (.int (8 * (1 + d))), none]) (h := [.lst [.int a', .int b']]) rfl (l := rgM 0 1 4) (fun x hx => by
      obtain ⟨i, hi, rfl⟩ := List.mem_map.mp hx
      have hi := List.mem_range.mp hi
      have io : iso (0 + (i : Int) * 1) = true := by simp only [iso, Bool.and_eq_true, decide_eq_true_eq]; omega
      have e4 := cF_val (n := 2) rfl (right_i [.lst [.int a', .int b']] sz io) (by simp)
      refine ⟨_, rfl, ?_⟩
      have : lb_law_0 [some (.fz (ns.map .int)), some (.int k), some (.ref 0), some (.int (8 * (1 + d))), some (.int (0 + (i : Int) * 1))] [.lst [.int a', .int b']] = .nx [some (.fz (ns.map .int)), some (.int k), some (.ref 0), some (.int (8 * (1 + d))), some (.int (0 + (i : Int) * 1))] [.lst [.int a', .int b']] := by
        simp at e4
        simp [lb_law_0, e4]
      exact sGc_same this)
    have T : lb_law_1 [some (.fz (ns.map .int)), some (.int k), none, none, none] [] = .nx [some (.fz (ns.map .int)), some (.int k), some (.ref 0), some (.int (8 * (1 + d))), none] ([] ++ [.lst [.int a', .int b']]) := by
      unfold lb_law_1
      refine (seq_nx (σ1 := [some (.fz (ns.map .int)), some (.int k), some (.ref 0), none, none]) (h1 := [.lst [.int a, .int b]]) (by simp at e1; simp [e1])).trans ?_
      refine (seq_nx (σ1 := [some (.fz (ns.map .int)), some (.int k), some (.ref 0), some (.int (8 * (1 + d))), none]) (h1 := [.lst [.int a', .int b']]) (by simp at e2; simp [e2, m1'])).trans ?_
      have hin : inB 4 = true := rfl
      simp [hin, e3]
    exact sGc_app T (by simp [clL, killL, clV, cls_pure])
  generalize hN : (max 1 (min 12 (ns.length : Int))) = N
  have hN' : (if (if (ns.length : Int) < 12 then (ns.length : Int) else 12) > 1 then (if (ns.length : Int) < 12 then (ns.length : Int) else 12) else 1) = N := by
    rw [← hN]; omega
  have hin : inB N = true := inB_of (by omega) (by omega)
  have loop := forGo_same (chk := fun _ => true) (g := gmName 1) (body := sGc [1, 2, 3, 4] lb_law_1) (σ := [some (.fz (ns.map .int)), none, none, none, none]) (h := []) rfl (l := rgM 0 1 N.toNat) (fun x hx => by
    obtain ⟨i, hi, rfl⟩ := List.mem_map.mp hx
    have hi := List.mem_range.mp hi
    exact ⟨_, rfl, turn _ (by omega) (by omega)⟩)
  unfold mb_law
  refine (seq_nx (σ1 := [some (.fz (ns.map .int)), none, none, none, none]) (h1 := []) ?_).trans rfl
  have emin : mMin [.int 12, .int ns.length] [] = .ok (.int (if (ns.length : Int) < 12 then (ns.length : Int) else 12)) [] := rfl
  have emax : mMax [.int 1, .int (if (ns.length : Int) < 12 then (ns.length : Int) else 12)] [] = .ok (.int N) [] := by rw [← hN']; rfl
  simp only [sFor, mN, mCons, mC, mVar, mNil, bindR_ok, bindS_ok, List.getElem?_cons_zero, el, emin, emax, itR1, hin, if_true, loop]
end MP

/-! printed by gen.py: the derivations of law_k02_runs_told -/
namespace MP
open PySem PySem.Spec PyProof.Rows L2
def topS (i : Nat) : Stmt := PySem.Challenge.pw_greatframes_k02_runs_told.main.body.getD i (.Pass ⟨0, 0, 0, 0⟩)
abbrev s_is_whole : Stmt := topS 10
abbrev N_is_whole : List Str := ["thing"]
theorem sc_is_whole : FnScope N_is_whole ["thing"] (defScope s_is_whole) := ⟨rfl, rfl, rfl, by decide +kernel, rfl, by decide +kernel, by decide +kernel⟩
abbrev s_is_from : Stmt := topS 11
abbrev N_is_from : List Str := ["thing", "least", "most"]
theorem sc_is_from : FnScope N_is_from ["thing", "least", "most"] (defScope s_is_from) := ⟨rfl, rfl, rfl, by decide +kernel, rfl, by decide +kernel, by decide +kernel⟩
abbrev s_is_size : Stmt := topS 12
abbrev N_is_size : List Str := ["thing"]
theorem sc_is_size : FnScope N_is_size ["thing"] (defScope s_is_size) := ⟨rfl, rfl, rfl, by decide +kernel, rfl, by decide +kernel, by decide +kernel⟩
abbrev s_is_order : Stmt := topS 13
abbrev N_is_order : List Str := ["thing"]
theorem sc_is_order : FnScope N_is_order ["thing"] (defScope s_is_order) := ⟨rfl, rfl, rfl, by decide +kernel, rfl, by decide +kernel, by decide +kernel⟩
abbrev s_is_frame : Stmt := topS 14
abbrev N_is_frame : List Str := ["size", "thing"]
theorem sc_is_frame : FnScope N_is_frame ["size", "thing"] (defScope s_is_frame) := ⟨rfl, rfl, rfl, by decide +kernel, rfl, by decide +kernel, by decide +kernel⟩
abbrev s_look_at_size : Stmt := topS 15
abbrev N_look_at_size : List Str := ["size"]
theorem sc_look_at_size : FnScope N_look_at_size ["size"] (defScope s_look_at_size) := ⟨rfl, rfl, rfl, by decide +kernel, rfl, by decide +kernel, by decide +kernel⟩
abbrev s_look_at_order : Stmt := topS 16
abbrev N_look_at_order : List Str := ["order"]
theorem sc_look_at_order : FnScope N_look_at_order ["order"] (defScope s_look_at_order) := ⟨rfl, rfl, rfl, by decide +kernel, rfl, by decide +kernel, by decide +kernel⟩
abbrev s_is_run : Stmt := topS 17
abbrev N_is_run : List Str := ["size", "thing"]
theorem sc_is_run : FnScope N_is_run ["size", "thing"] (defScope s_is_run) := ⟨rfl, rfl, rfl, by decide +kernel, rfl, by decide +kernel, by decide +kernel⟩
abbrev s_look_at_run : Stmt := topS 18
abbrev N_look_at_run : List Str := ["size", "run"]
theorem sc_look_at_run : FnScope N_look_at_run ["size", "run"] (defScope s_look_at_run) := ⟨rfl, rfl, rfl, by decide +kernel, rfl, by decide +kernel, by decide +kernel⟩
abbrev s_frames_of : Stmt := topS 19
abbrev N_frames_of : List Str := ["size", "run", "order", "first"]
theorem sc_frames_of : FnScope N_frames_of ["size", "run"] (defScope s_frames_of) := ⟨rfl, rfl, rfl, by decide +kernel, rfl, by decide +kernel, by decide +kernel⟩
abbrev s_halves : Stmt := topS 20
abbrev N_halves : List Str := ["size", "run", "order", "first"]
theorem sc_halves : FnScope N_halves ["size", "run"] (defScope s_halves) := ⟨rfl, rfl, rfl, by decide +kernel, rfl, by decide +kernel, by decide +kernel⟩
abbrev s_run_with : Stmt := topS 21
abbrev N_run_with : List Str := ["size", "order", "frame"]
theorem sc_run_with : FnScope N_run_with ["size", "order", "frame"] (defScope s_run_with) := ⟨rfl, rfl, rfl, by decide +kernel, rfl, by decide +kernel, by decide +kernel⟩
abbrev s_fellow : Stmt := topS 22
abbrev N_fellow : List Str := ["size", "run", "order", "first", "many"]
theorem sc_fellow : FnScope N_fellow ["size", "run"] (defScope s_fellow) := ⟨rfl, rfl, rfl, by decide +kernel, rfl, by decide +kernel, by decide +kernel⟩
abbrev s_runs : Stmt := topS 23
abbrev N_runs : List Str := ["size", "order", "first"]
theorem sc_runs : FnScope N_runs ["size", "order"] (defScope s_runs) := ⟨rfl, rfl, rfl, by decide +kernel, rfl, by decide +kernel, by decide +kernel⟩
abbrev s_law_pool : Stmt := topS 25
abbrev N_law_pool : List Str := ["_law_script", "_law_k", "_law_cell", "_law_span", "_law_mixed"]
theorem sc_law_pool : FnScope N_law_pool ["_law_script", "_law_k"] (defScope s_law_pool) := ⟨rfl, rfl, rfl, by decide +kernel, rfl, by decide +kernel, by decide +kernel⟩
abbrev s_law_draw : Stmt := topS 26
abbrev N_law_draw : List Str := ["_law_pool_here", "_law_many", "_law_found"]
theorem sc_law_draw : FnScope N_law_draw ["_law_pool_here", "_law_many"] (defScope s_law_draw) := ⟨rfl, rfl, rfl, by decide +kernel, rfl, by decide +kernel, by decide +kernel⟩
abbrev s_law_right : Stmt := topS 27
abbrev N_law_right : List Str := ["_law_span", "_law_level", "_law_many", "_law_found", "_law_one", "_law_own", "_law_spot", "_law_parts", "_law_other", "_law_both", "_law_k"]
theorem sc_law_right : FnScope N_law_right ["_law_span", "_law_level"] (defScope s_law_right) := ⟨rfl, rfl, rfl, by decide +kernel, rfl, by decide +kernel, by decide +kernel⟩
abbrev s_law : Stmt := topS 28
abbrev N_law : List Str := ["_law_script", "_law_k", "_law_pool_here", "_law_span", "_law_level"]
theorem sc_law : FnScope N_law ["_law_script"] (defScope s_law) := ⟨rfl, rfl, rfl, by decide +kernel, rfl, by decide +kernel, by decide +kernel⟩
def gv_kb_fellow_10 : List Value → List Value → List Value := fun us ws => match us, ws with | [], [a0, a1] => [a1, a0] | _, _ => []
def gV_kb_fellow_10 : List V → List V → List V := fun us ws => match us, ws with | [], [a0, a1] => [a1, a0] | _, _ => []
theorem r_kb_fellow_10 {c : C} : ∀ ι β H ms vs, RepVs c.K ι β H ms vs → RepVs c.K ι β H (g_kb_fellow_10 ms) (gV_kb_fellow_10 [] vs) := by
  intro ι β H ms vs r
  unfold g_kb_fellow_10
  split
  · obtain ⟨v0, v1, rfl, q0, q1⟩ := Vs2 r
    exact .cons q1 (.cons q0 (.nil))
  · rename_i hn
    unfold gV_kb_fellow_10
    split
    · exfalso
      have hl := r.length
      match ms, hl with
      | [x0, x1], _ => exact hn x0 x1 rfl
    · exact .nil
theorem rv_kb_fellow_10 {vs : List V} {us : List Value} {zs : List V} {ws : List Value} (h1 : Vals vs us) (h2 : Vals zs ws) : Vals (gV_kb_fellow_10 vs zs) (gv_kb_fellow_10 us ws) := by
  cases h1 with
  | cons _ _ => exact .nil
  | nil =>
    cases h2 with
    | nil => exact .nil
    | cons p0 h3 =>
      cases h3 with
      | nil => exact .nil
      | cons p1 h4 =>
        cases h4 with
        | cons _ _ => exact .nil
        | nil => exact .cons p1 (.cons p0 (.nil))
def gv_kb_frames_of_10 : List Value → List Value → List Value := fun us ws => match us, ws with | [], [a0, a1] => [a1, a0] | _, _ => []
def gV_kb_frames_of_10 : List V → List V → List V := fun us ws => match us, ws with | [], [a0, a1] => [a1, a0] | _, _ => []
theorem r_kb_frames_of_10 {c : C} : ∀ ι β H ms vs, RepVs c.K ι β H ms vs → RepVs c.K ι β H (g_kb_frames_of_10 ms) (gV_kb_frames_of_10 [] vs) := by
  intro ι β H ms vs r
  unfold g_kb_frames_of_10
  split
  · obtain ⟨v0, v1, rfl, q0, q1⟩ := Vs2 r
    exact .cons q1 (.cons q0 (.nil))
  · rename_i hn
    unfold gV_kb_frames_of_10
    split
    · exfalso
      have hl := r.length
      match ms, hl with
      | [x0, x1], _ => exact hn x0 x1 rfl
    · exact .nil
theorem rv_kb_frames_of_10 {vs : List V} {us : List Value} {zs : List V} {ws : List Value} (h1 : Vals vs us) (h2 : Vals zs ws) : Vals (gV_kb_frames_of_10 vs zs) (gv_kb_frames_of_10 us ws) := by
  cases h1 with
  | cons _ _ => exact .nil
  | nil =>
    cases h2 with
    | nil => exact .nil
    | cons p0 h3 =>
      cases h3 with
      | nil => exact .nil
      | cons p1 h4 =>
        cases h4 with
        | cons _ _ => exact .nil
        | nil => exact .cons p1 (.cons p0 (.nil))
def gv_kb_halves_10 : List Value → List Value → List Value := fun us ws => match us, ws with | [], [a0, a1] => [a1, a0] | _, _ => []
def gV_kb_halves_10 : List V → List V → List V := fun us ws => match us, ws with | [], [a0, a1] => [a1, a0] | _, _ => []
theorem r_kb_halves_10 {c : C} : ∀ ι β H ms vs, RepVs c.K ι β H ms vs → RepVs c.K ι β H (g_kb_halves_10 ms) (gV_kb_halves_10 [] vs) := by
  intro ι β H ms vs r
  unfold g_kb_halves_10
  split
  · obtain ⟨v0, v1, rfl, q0, q1⟩ := Vs2 r
    exact .cons q1 (.cons q0 (.nil))
  · rename_i hn
    unfold gV_kb_halves_10
    split
    · exfalso
      have hl := r.length
      match ms, hl with
      | [x0, x1], _ => exact hn x0 x1 rfl
    · exact .nil
theorem rv_kb_halves_10 {vs : List V} {us : List Value} {zs : List V} {ws : List Value} (h1 : Vals vs us) (h2 : Vals zs ws) : Vals (gV_kb_halves_10 vs zs) (gv_kb_halves_10 us ws) := by
  cases h1 with
  | cons _ _ => exact .nil
  | nil =>
    cases h2 with
    | nil => exact .nil
    | cons p0 h3 =>
      cases h3 with
      | nil => exact .nil
      | cons p1 h4 =>
        cases h4 with
        | cons _ _ => exact .nil
        | nil => exact .cons p1 (.cons p0 (.nil))
def gv_kb_is_order_0 : List Value → List Value → List Value := fun us ws => match us, ws with | [], [a0] => [a0] | _, _ => []
def gV_kb_is_order_0 : List V → List V → List V := fun us ws => match us, ws with | [], [a0] => [a0] | _, _ => []
theorem r_kb_is_order_0 {c : C} : ∀ ι β H ms vs, RepVs c.K ι β H ms vs → RepVs c.K ι β H (g_kb_is_order_0 ms) (gV_kb_is_order_0 [] vs) := by
  intro ι β H ms vs r
  unfold g_kb_is_order_0
  split
  · obtain ⟨v0, rfl, q0⟩ := Vs1 r
    exact .cons q0 (.nil)
  · rename_i hn
    unfold gV_kb_is_order_0
    split
    · exfalso
      have hl := r.length
      match ms, hl with
      | [x0], _ => exact hn x0 rfl
    · exact .nil
theorem rv_kb_is_order_0 {vs : List V} {us : List Value} {zs : List V} {ws : List Value} (h1 : Vals vs us) (h2 : Vals zs ws) : Vals (gV_kb_is_order_0 vs zs) (gv_kb_is_order_0 us ws) := by
  cases h1 with
  | cons _ _ => exact .nil
  | nil =>
    cases h2 with
    | nil => exact .nil
    | cons p0 h3 =>
      cases h3 with
      | cons _ _ => exact .nil
      | nil => exact .cons p0 (.nil)
def gv_kb_is_run_10 : List Value → List Value → List Value := fun us ws => match us, ws with | [], [a0, a1] => [a1, a0] | _, _ => []
def gV_kb_is_run_10 : List V → List V → List V := fun us ws => match us, ws with | [], [a0, a1] => [a1, a0] | _, _ => []
theorem r_kb_is_run_10 {c : C} : ∀ ι β H ms vs, RepVs c.K ι β H ms vs → RepVs c.K ι β H (g_kb_is_run_10 ms) (gV_kb_is_run_10 [] vs) := by
  intro ι β H ms vs r
  unfold g_kb_is_run_10
  split
  · obtain ⟨v0, v1, rfl, q0, q1⟩ := Vs2 r
    exact .cons q1 (.cons q0 (.nil))
  · rename_i hn
    unfold gV_kb_is_run_10
    split
    · exfalso
      have hl := r.length
      match ms, hl with
      | [x0, x1], _ => exact hn x0 x1 rfl
    · exact .nil
theorem rv_kb_is_run_10 {vs : List V} {us : List Value} {zs : List V} {ws : List Value} (h1 : Vals vs us) (h2 : Vals zs ws) : Vals (gV_kb_is_run_10 vs zs) (gv_kb_is_run_10 us ws) := by
  cases h1 with
  | cons _ _ => exact .nil
  | nil =>
    cases h2 with
    | nil => exact .nil
    | cons p0 h3 =>
      cases h3 with
      | nil => exact .nil
      | cons p1 h4 =>
        cases h4 with
        | cons _ _ => exact .nil
        | nil => exact .cons p1 (.cons p0 (.nil))
def gv_kb_is_size_0 : List Value → List Value → List Value := fun us ws => match us, ws with | [], [a0] => [a0] | _, _ => []
def gV_kb_is_size_0 : List V → List V → List V := fun us ws => match us, ws with | [], [a0] => [a0] | _, _ => []
theorem r_kb_is_size_0 {c : C} : ∀ ι β H ms vs, RepVs c.K ι β H ms vs → RepVs c.K ι β H (g_kb_is_size_0 ms) (gV_kb_is_size_0 [] vs) := by
  intro ι β H ms vs r
  unfold g_kb_is_size_0
  split
  · obtain ⟨v0, rfl, q0⟩ := Vs1 r
    exact .cons q0 (.nil)
  · rename_i hn
    unfold gV_kb_is_size_0
    split
    · exfalso
      have hl := r.length
      match ms, hl with
      | [x0], _ => exact hn x0 rfl
    · exact .nil
theorem rv_kb_is_size_0 {vs : List V} {us : List Value} {zs : List V} {ws : List Value} (h1 : Vals vs us) (h2 : Vals zs ws) : Vals (gV_kb_is_size_0 vs zs) (gv_kb_is_size_0 us ws) := by
  cases h1 with
  | cons _ _ => exact .nil
  | nil =>
    cases h2 with
    | nil => exact .nil
    | cons p0 h3 =>
      cases h3 with
      | cons _ _ => exact .nil
      | nil => exact .cons p0 (.nil)
def gv_kb_run_with_210 : List Value → List Value → List Value := fun us ws => match us, ws with | [], [a0, a1, a2] => [a2, a1, a0] | _, _ => []
def gV_kb_run_with_210 : List V → List V → List V := fun us ws => match us, ws with | [], [a0, a1, a2] => [a2, a1, a0] | _, _ => []
theorem r_kb_run_with_210 {c : C} : ∀ ι β H ms vs, RepVs c.K ι β H ms vs → RepVs c.K ι β H (g_kb_run_with_210 ms) (gV_kb_run_with_210 [] vs) := by
  intro ι β H ms vs r
  unfold g_kb_run_with_210
  split
  · obtain ⟨v0, v1, v2, rfl, q0, q1, q2⟩ := Vs3 r
    exact .cons q2 (.cons q1 (.cons q0 (.nil)))
  · rename_i hn
    unfold gV_kb_run_with_210
    split
    · exfalso
      have hl := r.length
      match ms, hl with
      | [x0, x1, x2], _ => exact hn x0 x1 x2 rfl
    · exact .nil
theorem rv_kb_run_with_210 {vs : List V} {us : List Value} {zs : List V} {ws : List Value} (h1 : Vals vs us) (h2 : Vals zs ws) : Vals (gV_kb_run_with_210 vs zs) (gv_kb_run_with_210 us ws) := by
  cases h1 with
  | cons _ _ => exact .nil
  | nil =>
    cases h2 with
    | nil => exact .nil
    | cons p0 h3 =>
      cases h3 with
      | nil => exact .nil
      | cons p1 h4 =>
        cases h4 with
        | nil => exact .nil
        | cons p2 h5 =>
          cases h5 with
          | cons _ _ => exact .nil
          | nil => exact .cons p2 (.cons p1 (.cons p0 (.nil)))
def gv_kb_runs_10 : List Value → List Value → List Value := fun us ws => match us, ws with | [], [a0, a1] => [a1, a0] | _, _ => []
def gV_kb_runs_10 : List V → List V → List V := fun us ws => match us, ws with | [], [a0, a1] => [a1, a0] | _, _ => []
theorem r_kb_runs_10 {c : C} : ∀ ι β H ms vs, RepVs c.K ι β H ms vs → RepVs c.K ι β H (g_kb_runs_10 ms) (gV_kb_runs_10 [] vs) := by
  intro ι β H ms vs r
  unfold g_kb_runs_10
  split
  · obtain ⟨v0, v1, rfl, q0, q1⟩ := Vs2 r
    exact .cons q1 (.cons q0 (.nil))
  · rename_i hn
    unfold gV_kb_runs_10
    split
    · exfalso
      have hl := r.length
      match ms, hl with
      | [x0, x1], _ => exact hn x0 x1 rfl
    · exact .nil
theorem rv_kb_runs_10 {vs : List V} {us : List Value} {zs : List V} {ws : List Value} (h1 : Vals vs us) (h2 : Vals zs ws) : Vals (gV_kb_runs_10 vs zs) (gv_kb_runs_10 us ws) := by
  cases h1 with
  | cons _ _ => exact .nil
  | nil =>
    cases h2 with
    | nil => exact .nil
    | cons p0 h3 =>
      cases h3 with
      | nil => exact .nil
      | cons p1 h4 =>
        cases h4 with
        | cons _ _ => exact .nil
        | nil => exact .cons p1 (.cons p0 (.nil))
structure Tx (P : Program) (w : World) (K : PySem.W.Frag) (mg : Str → Option Value) (base : Heap) (ca : Nat → Addr) where
  unit : True
  z_bool : mg "bool" = none
  z_int : mg "int" = none
  z_isinstance : mg "isinstance" = none
  z_len : mg "len" = none
  z_list : mg "list" = none
  z_max : mg "max" = none
  z_min : mg "min" = none
  z_range : mg "range" = none
  z_sorted : mg "sorted" = none
  z_tuple : mg "tuple" = none
  w_LOT : V
  v_LOT : ∃ u, mg "LOT" = some u ∧ RelV w_LOT u
  r_LOT : ∀ ι β H, RepV (C.mk K ca).K ι β H (.int 8) w_LOT
  w_MANY : V
  v_MANY : ∃ u, mg "MANY" = some u ∧ RelV w_MANY u
  r_MANY : ∀ ι β H, RepV (C.mk K ca).K ι β H (.tup [.int 1, .int 2, .int 4, .int 8]) w_MANY
  w_MOST_ORDER : V
  v_MOST_ORDER : ∃ u, mg "MOST_ORDER" = some u ∧ RelV w_MOST_ORDER u
  r_MOST_ORDER : ∀ ι β H, RepV (C.mk K ca).K ι β H (.int 3) w_MOST_ORDER
  w_MOST_SIZE : V
  v_MOST_SIZE : ∃ u, mg "MOST_SIZE" = some u ∧ RelV w_MOST_SIZE u
  r_MOST_SIZE : ∀ ι β H, RepV (C.mk K ca).K ι β H (.int 64) w_MOST_SIZE
  f_is_whole : Addr
  d_is_whole : FuncData
  F_is_whole : Fun K "is_whole" "is_whole" s_is_whole f_is_whole d_is_whole
  g_is_whole : mg "is_whole" = some (.ref f_is_whole)
  f_is_from : Addr
  d_is_from : FuncData
  F_is_from : Fun K "is_from" "is_from" s_is_from f_is_from d_is_from
  g_is_from : mg "is_from" = some (.ref f_is_from)
  f_is_size : Addr
  d_is_size : FuncData
  F_is_size : Fun K "is_size" "is_size" s_is_size f_is_size d_is_size
  g_is_size : mg "is_size" = some (.ref f_is_size)
  f_is_order : Addr
  d_is_order : FuncData
  F_is_order : Fun K "is_order" "is_order" s_is_order f_is_order d_is_order
  g_is_order : mg "is_order" = some (.ref f_is_order)
  f_is_frame : Addr
  d_is_frame : FuncData
  F_is_frame : Fun K "is_frame" "is_frame" s_is_frame f_is_frame d_is_frame
  g_is_frame : mg "is_frame" = some (.ref f_is_frame)
  f_look_at_size : Addr
  d_look_at_size : FuncData
  F_look_at_size : Fun K "look_at_size" "look_at_size" s_look_at_size f_look_at_size d_look_at_size
  g_look_at_size : mg "look_at_size" = some (.ref f_look_at_size)
  f_look_at_order : Addr
  d_look_at_order : FuncData
  F_look_at_order : Fun K "look_at_order" "look_at_order" s_look_at_order f_look_at_order d_look_at_order
  g_look_at_order : mg "look_at_order" = some (.ref f_look_at_order)
  f_is_run : Addr
  d_is_run : FuncData
  F_is_run : Fun K "is_run" "is_run" s_is_run f_is_run d_is_run
  g_is_run : mg "is_run" = some (.ref f_is_run)
  f_look_at_run : Addr
  d_look_at_run : FuncData
  F_look_at_run : Fun K "look_at_run" "look_at_run" s_look_at_run f_look_at_run d_look_at_run
  g_look_at_run : mg "look_at_run" = some (.ref f_look_at_run)
  f_frames_of : Addr
  d_frames_of : FuncData
  F_frames_of : Fun K "frames_of" "frames_of" s_frames_of f_frames_of d_frames_of
  g_frames_of : mg "frames_of" = some (.ref f_frames_of)
  f_halves : Addr
  d_halves : FuncData
  F_halves : Fun K "halves" "halves" s_halves f_halves d_halves
  g_halves : mg "halves" = some (.ref f_halves)
  f_run_with : Addr
  d_run_with : FuncData
  F_run_with : Fun K "run_with" "run_with" s_run_with f_run_with d_run_with
  g_run_with : mg "run_with" = some (.ref f_run_with)
  f_fellow : Addr
  d_fellow : FuncData
  F_fellow : Fun K "fellow" "fellow" s_fellow f_fellow d_fellow
  g_fellow : mg "fellow" = some (.ref f_fellow)
  f_runs : Addr
  d_runs : FuncData
  F_runs : Fun K "runs" "runs" s_runs f_runs d_runs
  g_runs : mg "runs" = some (.ref f_runs)
  f_law_pool : Addr
  d_law_pool : FuncData
  F_law_pool : Fun K "_law_pool" "_law_pool" s_law_pool f_law_pool d_law_pool
  g_law_pool : mg "_law_pool" = some (.ref f_law_pool)
  f_law_draw : Addr
  d_law_draw : FuncData
  F_law_draw : Fun K "_law_draw" "_law_draw" s_law_draw f_law_draw d_law_draw
  g_law_draw : mg "_law_draw" = some (.ref f_law_draw)
  f_law_right : Addr
  d_law_right : FuncData
  F_law_right : Fun K "_law_right" "_law_right" s_law_right f_law_right d_law_right
  g_law_right : mg "_law_right" = some (.ref f_law_right)
  f_law : Addr
  d_law : FuncData
  F_law : Fun K "law" "law" s_law f_law d_law
  g_law : mg "law" = some (.ref f_law)
section
variable {P : Program} {w : World} {K : PySem.W.Frag} {mg : Str → Option Value} {base : Heap} {ca : Nat → Addr}
theorem Tx.k_is_whole (T : Tx P w K mg base ca) : PySem.W.keepIn K (.ref T.f_is_whole) = true := T.F_is_whole.kp
theorem Tx.b_is_whole (T : Tx P w K mg base ca) : Binds K T.d_is_whole ["thing"] [] := T.F_is_whole.binds fun _ _ _ _ _ _ us hl => match us, hl with | [_], _ => rfl
theorem Tx.ok_is_whole (T : Tx P w K mg base ca) : FnOk P w K mg base (L2.CX P w) 1 T.f_is_whole T.d_is_whole ["thing"] (spM (C.mk K ca) 1 m_is_whole) := by
  refine fn_okM (c := C.mk K ca) T.F_is_whole sc_is_whole fun cdv A outer s H E hr => ?_
  have tk := takes_of (X := cxOf (L2.CX P w) P w K mg base N_is_whole "is_whole" (defScope s_is_whole) T.f_is_whole cdv A outer s H E) rfl rfl rfl rfl
  exact (ss_one (s_ret (e_and (e_isi .int rfl (by rfl) T.z_isinstance (by rfl) T.z_int (by decide +kernel) boot_isinstance (e_var 0 (pv 0))) (e_one (e_not (e_isi .bl rfl (by rfl) T.z_isinstance (by rfl) T.z_bool (by decide +kernel) boot_isinstance (e_var 0 (pv 0))))))))
theorem Tx.k_is_from (T : Tx P w K mg base ca) : PySem.W.keepIn K (.ref T.f_is_from) = true := T.F_is_from.kp
theorem Tx.b_is_from (T : Tx P w K mg base ca) : Binds K T.d_is_from ["thing", "least", "most"] [] := T.F_is_from.binds fun _ _ _ _ _ _ us hl => match us, hl with | [_, _, _], _ => rfl
theorem Tx.ok_is_from (T : Tx P w K mg base ca) : FnOk P w K mg base (L2.CX P w) 2 T.f_is_from T.d_is_from ["thing", "least", "most"] (spM (C.mk K ca) 3 m_is_from) := by
  refine fn_okM (c := C.mk K ca) T.F_is_from sc_is_from fun cdv A outer s H E hr => ?_
  have tk := takes_of (X := cxOf (L2.CX P w) P w K mg base N_is_from "is_from" (defScope s_is_from) T.f_is_from cdv A outer s H E) rfl rfl rfl rfl
  exact (ss_one (s_ret (e_and (e_call way_F T.ok_is_whole (hr.mono (by decide)) (by rfl) T.g_is_whole T.k_is_whole T.b_is_whole tk (a_cons (e_var 0 (pv 0)) a_nil)) (e_one (e_chain op_le p_le op_le p_le (e_var 1 (pv 1)) (e_var 0 (pv 0)) (e_var 2 (pv 2)))))))
theorem Tx.k_is_size (T : Tx P w K mg base ca) : PySem.W.keepIn K (.ref T.f_is_size) = true := T.F_is_size.kp
theorem Tx.b_is_size (T : Tx P w K mg base ca) : Binds K T.d_is_size ["thing"] [] := T.F_is_size.binds fun _ _ _ _ _ _ us hl => match us, hl with | [_], _ => rfl
theorem Tx.kb_is_size_0 (T : Tx P w K mg base ca) : KBinds K T.d_is_size ["thing"] ["thing"] gv_kb_is_size_0 gV_kb_is_size_0 := by
  obtain ⟨oc, od, kV, doc, pm, an, cdv, ct, osl, e, lk, hcd⟩ := T.F_is_size.ex
  rw [e]
  refine ⟨fun s us ws _ hl => ?_, fun h1 h2 => rv_kb_is_size_0 h1 h2⟩
  match us, ws, hl with
  | [], [_], _ => exact .of_eq rfl
theorem Tx.ok_is_size (T : Tx P w K mg base ca) : FnOk P w K mg base (L2.CX P w) 3 T.f_is_size T.d_is_size ["thing"] (spM (C.mk K ca) 1 m_is_size) := by
  refine fn_okM (c := C.mk K ca) T.F_is_size sc_is_size fun cdv A outer s H E hr => ?_
  have tk := takes_of (X := cxOf (L2.CX P w) P w K mg base N_is_size "is_size" (defScope s_is_size) T.f_is_size cdv A outer s H E) rfl rfl rfl rfl
  exact (ss_one (s_ret (e_and (e_call way_F T.ok_is_from (hr.mono (by decide)) (by rfl) T.g_is_from T.k_is_from T.b_is_from tk (a_cons (e_var 0 (pv 0)) (a_cons (e_c (C8.pe_gc rfl T.v_LOT) T.r_LOT) (a_cons (e_c (C8.pe_gc rfl T.v_MOST_SIZE) T.r_MOST_SIZE) a_nil)))) (e_one (e_cmp (op_eqA hr.units) p_eqA (e_op op_mod p_mod (e_var 0 (pv 0)) (e_c (C8.pe_gc rfl T.v_LOT) T.r_LOT)) (e_c pe_int rint) (nomark _))))))
theorem Tx.k_is_order (T : Tx P w K mg base ca) : PySem.W.keepIn K (.ref T.f_is_order) = true := T.F_is_order.kp
theorem Tx.b_is_order (T : Tx P w K mg base ca) : Binds K T.d_is_order ["thing"] [] := T.F_is_order.binds fun _ _ _ _ _ _ us hl => match us, hl with | [_], _ => rfl
theorem Tx.kb_is_order_0 (T : Tx P w K mg base ca) : KBinds K T.d_is_order ["thing"] ["thing"] gv_kb_is_order_0 gV_kb_is_order_0 := by
  obtain ⟨oc, od, kV, doc, pm, an, cdv, ct, osl, e, lk, hcd⟩ := T.F_is_order.ex
  rw [e]
  refine ⟨fun s us ws _ hl => ?_, fun h1 h2 => rv_kb_is_order_0 h1 h2⟩
  match us, ws, hl with
  | [], [_], _ => exact .of_eq rfl
theorem Tx.ok_is_order (T : Tx P w K mg base ca) : FnOk P w K mg base (L2.CX P w) 3 T.f_is_order T.d_is_order ["thing"] (spM (C.mk K ca) 1 m_is_order) := by
  refine fn_okM (c := C.mk K ca) T.F_is_order sc_is_order fun cdv A outer s H E hr => ?_
  have tk := takes_of (X := cxOf (L2.CX P w) P w K mg base N_is_order "is_order" (defScope s_is_order) T.f_is_order cdv A outer s H E) rfl rfl rfl rfl
  exact (ss_one (s_ret (e_call way_R T.ok_is_from (hr.mono (by decide)) (by rfl) T.g_is_from T.k_is_from T.b_is_from tk (a_cons (e_var 0 (pv 0)) (a_cons (e_c pe_int rint) (a_cons (e_c (C8.pe_gc rfl T.v_MOST_ORDER) T.r_MOST_ORDER) a_nil))))))
theorem Tx.k_is_frame (T : Tx P w K mg base ca) : PySem.W.keepIn K (.ref T.f_is_frame) = true := T.F_is_frame.kp
theorem Tx.b_is_frame (T : Tx P w K mg base ca) : Binds K T.d_is_frame ["size", "thing"] [] := T.F_is_frame.binds fun _ _ _ _ _ _ us hl => match us, hl with | [_, _], _ => rfl
theorem Tx.ok_is_frame (T : Tx P w K mg base ca) : FnOk P w K mg base (L2.CX P w) 3 T.f_is_frame T.d_is_frame ["size", "thing"] (spM (C.mk K ca) 2 m_is_frame) := by
  refine fn_okM (c := C.mk K ca) T.F_is_frame sc_is_frame fun cdv A outer s H E hr => ?_
  have tk := takes_of (X := cxOf (L2.CX P w) P w K mg base N_is_frame "is_frame" (defScope s_is_frame) T.f_is_frame cdv A outer s H E) rfl rfl rfl rfl
  exact (ss_one (s_ret (e_call way_R T.ok_is_from (hr.mono (by decide)) (by rfl) T.g_is_from T.k_is_from T.b_is_from tk (a_cons (e_var 1 (pv 1)) (a_cons (e_c pe_int rint) (a_cons (e_op op_sub p_sub (e_var 0 (pv 0)) (e_c pe_int rint)) a_nil))))))
theorem Tx.k_look_at_size (T : Tx P w K mg base ca) : PySem.W.keepIn K (.ref T.f_look_at_size) = true := T.F_look_at_size.kp
theorem Tx.b_look_at_size (T : Tx P w K mg base ca) : Binds K T.d_look_at_size ["size"] [] := T.F_look_at_size.binds fun _ _ _ _ _ _ us hl => match us, hl with | [_], _ => rfl
theorem Tx.ok_look_at_size (T : Tx P w K mg base ca) : FnOk P w K mg base (L2.CX P w) 4 T.f_look_at_size T.d_look_at_size ["size"] (spM (C.mk K ca) 1 m_look_at_size) := by
  refine fn_okM (c := C.mk K ca) T.F_look_at_size sc_look_at_size fun cdv A outer s H E hr => ?_
  have tk := takes_of (X := cxOf (L2.CX P w) P w K mg base N_look_at_size "look_at_size" (defScope s_look_at_size) T.f_look_at_size cdv A outer s H E) rfl rfl rfl rfl
  exact (ss_one (s_if (t_not (t_tru (e_call way_F T.ok_is_size (hr.mono (by decide)) (by rfl) T.g_is_size T.k_is_size T.b_is_size tk (a_cons (e_var 0 (pv 0)) a_nil))))
  (ss_one s_never)
  ss_nil))
theorem Tx.k_look_at_order (T : Tx P w K mg base ca) : PySem.W.keepIn K (.ref T.f_look_at_order) = true := T.F_look_at_order.kp
theorem Tx.b_look_at_order (T : Tx P w K mg base ca) : Binds K T.d_look_at_order ["order"] [] := T.F_look_at_order.binds fun _ _ _ _ _ _ us hl => match us, hl with | [_], _ => rfl
theorem Tx.ok_look_at_order (T : Tx P w K mg base ca) : FnOk P w K mg base (L2.CX P w) 4 T.f_look_at_order T.d_look_at_order ["order"] (spM (C.mk K ca) 1 m_look_at_order) := by
  refine fn_okM (c := C.mk K ca) T.F_look_at_order sc_look_at_order fun cdv A outer s H E hr => ?_
  have tk := takes_of (X := cxOf (L2.CX P w) P w K mg base N_look_at_order "look_at_order" (defScope s_look_at_order) T.f_look_at_order cdv A outer s H E) rfl rfl rfl rfl
  exact (ss_one (s_if (t_not (t_tru (e_call way_F T.ok_is_order (hr.mono (by decide)) (by rfl) T.g_is_order T.k_is_order T.b_is_order tk (a_cons (e_var 0 (pv 0)) a_nil))))
  (ss_one s_never)
  ss_nil))
theorem Tx.k_is_run (T : Tx P w K mg base ca) : PySem.W.keepIn K (.ref T.f_is_run) = true := T.F_is_run.kp
theorem Tx.b_is_run (T : Tx P w K mg base ca) : Binds K T.d_is_run ["size", "thing"] [] := T.F_is_run.binds fun _ _ _ _ _ _ us hl => match us, hl with | [_, _], _ => rfl
theorem Tx.kb_is_run_10 (T : Tx P w K mg base ca) : KBinds K T.d_is_run ["size", "thing"] ["thing", "size"] gv_kb_is_run_10 gV_kb_is_run_10 := by
  obtain ⟨oc, od, kV, doc, pm, an, cdv, ct, osl, e, lk, hcd⟩ := T.F_is_run.ex
  rw [e]
  refine ⟨fun s us ws _ hl => ?_, fun h1 h2 => rv_kb_is_run_10 h1 h2⟩
  match us, ws, hl with
  | [], [_, _], _ => exact .of_eq rfl
theorem Tx.ok_is_run (T : Tx P w K mg base ca) : FnOk P w K mg base (L2.CX P w) 5 T.f_is_run T.d_is_run ["size", "thing"] (spM (C.mk K ca) 2 m_is_run) := by
  refine fn_okM (c := C.mk K ca) T.F_is_run sc_is_run fun cdv A outer s H E hr => ?_
  have tk := takes_of (X := cxOf (L2.CX P w) P w K mg base N_is_run "is_run" (defScope s_is_run) T.f_is_run cdv A outer s H E) rfl rfl rfl rfl
  exact (ss_cons (s_expr (e_call way_F T.ok_look_at_size (hr.mono (by decide)) (by rfl) T.g_look_at_size T.k_look_at_size T.b_look_at_size tk (a_cons (e_var 0 (pv 0)) a_nil)))
  (ss_cons (s_if (PW.pt (w_or (t_not (t_tru (e_isi .tup rfl (by rfl) T.z_isinstance (by rfl) T.z_tuple (by decide +kernel) boot_isinstance (e_var 1 (pv 1))))) (w_or (t_cmp (op_neA hr.units) p_neA (e_builtin call_len p_len (by rfl) T.z_len (by decide +kernel) (a_cons (e_var 1 (pv 1)) a_nil)) (e_c pe_int rint) (nomark _)) (w_one2 (t_not (t_tru (e_call way_F T.ok_is_order (hr.mono (by decide)) (by rfl) T.g_is_order T.k_is_order T.b_is_order tk (a_cons (e_ixA (hu_of hr) rfl (e_var 1 (pv 1)) (e_c pe_int rint) (fun _ _ => rfl)) a_nil))))))))
  (ss_one (s_ret (e_c pe_bl rbl)))
  ss_nil)
  (ss_one (s_ret (e_and (e_call way_F T.ok_is_from (hr.mono (by decide)) (by rfl) T.g_is_from T.k_is_from T.b_is_from tk (a_cons (e_ixA (hu_of hr) rfl (e_var 1 (pv 1)) (e_c pe_int rint) (fun _ _ => rfl)) (a_cons (e_c pe_int rint) (a_cons (e_op op_sub p_sub (e_var 0 (pv 0)) (e_c pe_int rint)) a_nil)))) (e_one (e_cmp (op_eqA hr.units) p_eqA (e_op op_mod p_mod (e_ixA (hu_of hr) rfl (e_var 1 (pv 1)) (e_c pe_int rint) (fun _ _ => rfl)) (e_ixA (hu_of hr) rfl (e_c (C8.pe_gc rfl T.v_MANY) T.r_MANY) (e_ixA (hu_of hr) rfl (e_var 1 (pv 1)) (e_c pe_int rint) (fun _ _ => rfl)) (fun _ _ => rfl))) (e_c pe_int rint) (nomark _))))))))
theorem Tx.k_look_at_run (T : Tx P w K mg base ca) : PySem.W.keepIn K (.ref T.f_look_at_run) = true := T.F_look_at_run.kp
theorem Tx.b_look_at_run (T : Tx P w K mg base ca) : Binds K T.d_look_at_run ["size", "run"] [] := T.F_look_at_run.binds fun _ _ _ _ _ _ us hl => match us, hl with | [_, _], _ => rfl
theorem Tx.ok_look_at_run (T : Tx P w K mg base ca) : FnOk P w K mg base (L2.CX P w) 6 T.f_look_at_run T.d_look_at_run ["size", "run"] (spM (C.mk K ca) 2 m_look_at_run) := by
  refine fn_okM (c := C.mk K ca) T.F_look_at_run sc_look_at_run fun cdv A outer s H E hr => ?_
  have tk := takes_of (X := cxOf (L2.CX P w) P w K mg base N_look_at_run "look_at_run" (defScope s_look_at_run) T.f_look_at_run cdv A outer s H E) rfl rfl rfl rfl
  exact (ss_one (s_if (t_not (t_tru (e_call way_F T.ok_is_run (hr.mono (by decide)) (by rfl) T.g_is_run T.k_is_run T.b_is_run tk (a_cons (e_var 0 (pv 0)) (a_cons (e_var 1 (pv 1)) a_nil)))))
  (ss_one s_never)
  ss_nil))
theorem Tx.k_frames_of (T : Tx P w K mg base ca) : PySem.W.keepIn K (.ref T.f_frames_of) = true := T.F_frames_of.kp
theorem Tx.b_frames_of (T : Tx P w K mg base ca) : Binds K T.d_frames_of ["size", "run"] [] := T.F_frames_of.binds fun _ _ _ _ _ _ us hl => match us, hl with | [_, _], _ => rfl
theorem Tx.kb_frames_of_10 (T : Tx P w K mg base ca) : KBinds K T.d_frames_of ["size", "run"] ["run", "size"] gv_kb_frames_of_10 gV_kb_frames_of_10 := by
  obtain ⟨oc, od, kV, doc, pm, an, cdv, ct, osl, e, lk, hcd⟩ := T.F_frames_of.ex
  rw [e]
  refine ⟨fun s us ws _ hl => ?_, fun h1 h2 => rv_kb_frames_of_10 h1 h2⟩
  match us, ws, hl with
  | [], [_, _], _ => exact .of_eq rfl
theorem Tx.ok_frames_of (T : Tx P w K mg base ca) : FnOk P w K mg base (L2.CX P w) 7 T.f_frames_of T.d_frames_of ["size", "run"] (spM (C.mk K ca) 2 m_frames_of) := by
  refine fn_okM (c := C.mk K ca) T.F_frames_of sc_frames_of fun cdv A outer s H E hr => ?_
  have tk := takes_of (X := cxOf (L2.CX P w) P w K mg base N_frames_of "frames_of" (defScope s_frames_of) T.f_frames_of cdv A outer s H E) rfl rfl rfl rfl
  exact (ss_cons (s_expr (e_call way_F T.ok_look_at_run (hr.mono (by decide)) (by rfl) T.g_look_at_run T.k_look_at_run T.b_look_at_run tk (a_cons (e_var 0 (pv 0)) (a_cons (e_var 1 (pv 1)) a_nil))))
  (ss_cons (s_asg (e_var 1 (pv 1)) (g_tup rfl rfl (gs_cons (g_name (i := 2) sc_frames_of.nd rfl (Or.inl rfl)) (gs_cons (g_name (i := 3) sc_frames_of.nd rfl (Or.inl rfl)) gs_nil))))
  (ss_one (s_ret (e_listRg2 finN_R rfl (by rfl) T.z_list (by rfl) T.z_range (e_var 3 (pv 3)) (e_op op_add4 (p_add finN_V) (e_var 3 (pv 3)) (e_ixA (hu_of hr) rfl (e_c (C8.pe_gc rfl T.v_MANY) T.r_MANY) (e_var 2 (pv 2)) (fun _ _ => rfl))))))))
theorem Tx.k_halves (T : Tx P w K mg base ca) : PySem.W.keepIn K (.ref T.f_halves) = true := T.F_halves.kp
theorem Tx.b_halves (T : Tx P w K mg base ca) : Binds K T.d_halves ["size", "run"] [] := T.F_halves.binds fun _ _ _ _ _ _ us hl => match us, hl with | [_, _], _ => rfl
theorem Tx.kb_halves_10 (T : Tx P w K mg base ca) : KBinds K T.d_halves ["size", "run"] ["run", "size"] gv_kb_halves_10 gV_kb_halves_10 := by
  obtain ⟨oc, od, kV, doc, pm, an, cdv, ct, osl, e, lk, hcd⟩ := T.F_halves.ex
  rw [e]
  refine ⟨fun s us ws _ hl => ?_, fun h1 h2 => rv_kb_halves_10 h1 h2⟩
  match us, ws, hl with
  | [], [_, _], _ => exact .of_eq rfl
theorem Tx.ok_halves (T : Tx P w K mg base ca) : FnOk P w K mg base (L2.CX P w) 7 T.f_halves T.d_halves ["size", "run"] (spM (C.mk K ca) 2 m_halves) := by
  refine fn_okM (c := C.mk K ca) T.F_halves sc_halves fun cdv A outer s H E hr => ?_
  have tk := takes_of (X := cxOf (L2.CX P w) P w K mg base N_halves "halves" (defScope s_halves) T.f_halves cdv A outer s H E) rfl rfl rfl rfl
  exact (ss_cons (s_expr (e_call way_F T.ok_look_at_run (hr.mono (by decide)) (by rfl) T.g_look_at_run T.k_look_at_run T.b_look_at_run tk (a_cons (e_var 0 (pv 0)) (a_cons (e_var 1 (pv 1)) a_nil))))
  (ss_cons (s_asg (e_var 1 (pv 1)) (g_tup rfl rfl (gs_cons (g_name (i := 2) sc_halves.nd rfl (Or.inl rfl)) (gs_cons (g_name (i := 3) sc_halves.nd rfl (Or.inl rfl)) gs_nil))))
  (ss_cons (s_if (t_cmp (op_eqA hr.units) p_eqA (e_var 2 (pv 2)) (e_c pe_int rint) (nomark _))
  (ss_one s_never)
  ss_nil)
  (ss_one (s_ret (e_lst (a_cons (e_tup (a_cons (e_op op_sub p_sub (e_var 2 (pv 2)) (e_c pe_int rint)) (a_cons (e_var 3 (pv 3)) a_nil))) (a_cons (e_tup (a_cons (e_op op_sub p_sub (e_var 2 (pv 2)) (e_c pe_int rint)) (a_cons (e_op op_add4 (p_add finN_V) (e_var 3 (pv 3)) (e_ixA (hu_of hr) rfl (e_c (C8.pe_gc rfl T.v_MANY) T.r_MANY) (e_op op_sub p_sub (e_var 2 (pv 2)) (e_c pe_int rint)) (fun _ _ => rfl))) a_nil))) a_nil))))))))
theorem Tx.k_run_with (T : Tx P w K mg base ca) : PySem.W.keepIn K (.ref T.f_run_with) = true := T.F_run_with.kp
theorem Tx.b_run_with (T : Tx P w K mg base ca) : Binds K T.d_run_with ["size", "order", "frame"] [] := T.F_run_with.binds fun _ _ _ _ _ _ us hl => match us, hl with | [_, _, _], _ => rfl
theorem Tx.kb_run_with_210 (T : Tx P w K mg base ca) : KBinds K T.d_run_with ["size", "order", "frame"] ["frame", "order", "size"] gv_kb_run_with_210 gV_kb_run_with_210 := by
  obtain ⟨oc, od, kV, doc, pm, an, cdv, ct, osl, e, lk, hcd⟩ := T.F_run_with.ex
  rw [e]
  refine ⟨fun s us ws _ hl => ?_, fun h1 h2 => rv_kb_run_with_210 h1 h2⟩
  match us, ws, hl with
  | [], [_, _, _], _ => exact .of_eq rfl
theorem Tx.ok_run_with (T : Tx P w K mg base ca) : FnOk P w K mg base (L2.CX P w) 5 T.f_run_with T.d_run_with ["size", "order", "frame"] (spM (C.mk K ca) 3 m_run_with) := by
  refine fn_okM (c := C.mk K ca) T.F_run_with sc_run_with fun cdv A outer s H E hr => ?_
  have tk := takes_of (X := cxOf (L2.CX P w) P w K mg base N_run_with "run_with" (defScope s_run_with) T.f_run_with cdv A outer s H E) rfl rfl rfl rfl
  exact (ss_cons (s_expr (e_call way_F T.ok_look_at_size (hr.mono (by decide)) (by rfl) T.g_look_at_size T.k_look_at_size T.b_look_at_size tk (a_cons (e_var 0 (pv 0)) a_nil)))
  (ss_cons (s_expr (e_call way_F T.ok_look_at_order (hr.mono (by decide)) (by rfl) T.g_look_at_order T.k_look_at_order T.b_look_at_order tk (a_cons (e_var 1 (pv 1)) a_nil)))
  (ss_cons (s_if (t_not (t_tru (e_call way_F T.ok_is_frame (hr.mono (by decide)) (by rfl) T.g_is_frame T.k_is_frame T.b_is_frame tk (a_cons (e_var 0 (pv 0)) (a_cons (e_var 2 (pv 2)) a_nil)))))
  (ss_one s_never)
  ss_nil)
  (ss_one (s_ret (e_tup (a_cons (e_var 1 (pv 1)) (a_cons (e_op op_sub p_sub (e_var 2 (pv 2)) (e_op op_mod p_mod (e_var 2 (pv 2)) (e_ixA (hu_of hr) rfl (e_c (C8.pe_gc rfl T.v_MANY) T.r_MANY) (e_var 1 (pv 1)) (fun _ _ => rfl)))) a_nil))))))))
theorem Tx.k_fellow (T : Tx P w K mg base ca) : PySem.W.keepIn K (.ref T.f_fellow) = true := T.F_fellow.kp
theorem Tx.b_fellow (T : Tx P w K mg base ca) : Binds K T.d_fellow ["size", "run"] [] := T.F_fellow.binds fun _ _ _ _ _ _ us hl => match us, hl with | [_, _], _ => rfl
theorem Tx.kb_fellow_10 (T : Tx P w K mg base ca) : KBinds K T.d_fellow ["size", "run"] ["run", "size"] gv_kb_fellow_10 gV_kb_fellow_10 := by
  obtain ⟨oc, od, kV, doc, pm, an, cdv, ct, osl, e, lk, hcd⟩ := T.F_fellow.ex
  rw [e]
  refine ⟨fun s us ws _ hl => ?_, fun h1 h2 => rv_kb_fellow_10 h1 h2⟩
  match us, ws, hl with
  | [], [_, _], _ => exact .of_eq rfl
theorem Tx.ok_fellow (T : Tx P w K mg base ca) : FnOk P w K mg base (L2.CX P w) 7 T.f_fellow T.d_fellow ["size", "run"] (spM (C.mk K ca) 2 m_fellow) := by
  refine fn_okM (c := C.mk K ca) T.F_fellow sc_fellow fun cdv A outer s H E hr => ?_
  have tk := takes_of (X := cxOf (L2.CX P w) P w K mg base N_fellow "fellow" (defScope s_fellow) T.f_fellow cdv A outer s H E) rfl rfl rfl rfl
  exact (ss_cons (s_expr (e_call way_F T.ok_look_at_run (hr.mono (by decide)) (by rfl) T.g_look_at_run T.k_look_at_run T.b_look_at_run tk (a_cons (e_var 0 (pv 0)) (a_cons (e_var 1 (pv 1)) a_nil))))
  (ss_cons (s_asg (e_var 1 (pv 1)) (g_tup rfl rfl (gs_cons (g_name (i := 2) sc_fellow.nd rfl (Or.inl rfl)) (gs_cons (g_name (i := 3) sc_fellow.nd rfl (Or.inl rfl)) gs_nil))))
  (ss_cons (s_if (t_cmp (op_eqA hr.units) p_eqA (e_var 2 (pv 2)) (e_c (C8.pe_gc rfl T.v_MOST_ORDER) T.r_MOST_ORDER) (nomark _))
  (ss_one s_never)
  ss_nil)
  (ss_cons (s_set (i := 4) sc_fellow.nd rfl (Or.inl rfl) (e_ixA (hu_of hr) rfl (e_c (C8.pe_gc rfl T.v_MANY) T.r_MANY) (e_var 2 (pv 2)) (fun _ _ => rfl)))
  (ss_one (s_ret (e_tup (a_cons (e_var 2 (pv 2)) (a_cons (e_if (t_tru (e_op op_mod p_mod (e_var 3 (pv 3)) (e_op op_mulA (p_mulA finN_V) (e_c pe_int rint) (e_var 4 (pv 4))))) (e_op op_sub p_sub (e_var 3 (pv 3)) (e_var 4 (pv 4))) (e_op op_add4 (p_add finN_R) (e_var 3 (pv 3)) (e_var 4 (pv 4)))) a_nil)))))))))
theorem Tx.k_runs (T : Tx P w K mg base ca) : PySem.W.keepIn K (.ref T.f_runs) = true := T.F_runs.kp
theorem Tx.b_runs (T : Tx P w K mg base ca) : Binds K T.d_runs ["size", "order"] [] := T.F_runs.binds fun _ _ _ _ _ _ us hl => match us, hl with | [_, _], _ => rfl
theorem Tx.kb_runs_10 (T : Tx P w K mg base ca) : KBinds K T.d_runs ["size", "order"] ["order", "size"] gv_kb_runs_10 gV_kb_runs_10 := by
  obtain ⟨oc, od, kV, doc, pm, an, cdv, ct, osl, e, lk, hcd⟩ := T.F_runs.ex
  rw [e]
  refine ⟨fun s us ws _ hl => ?_, fun h1 h2 => rv_kb_runs_10 h1 h2⟩
  match us, ws, hl with
  | [], [_, _], _ => exact .of_eq rfl
theorem Tx.ok_runs (T : Tx P w K mg base ca) : FnOk P w K mg base (L2.CX P w) 5 T.f_runs T.d_runs ["size", "order"] (spM (C.mk K ca) 2 m_runs) := by
  refine fn_okM (c := C.mk K ca) T.F_runs sc_runs fun cdv A outer s H E hr => ?_
  have tk := takes_of (X := cxOf (L2.CX P w) P w K mg base N_runs "runs" (defScope s_runs) T.f_runs cdv A outer s H E) rfl rfl rfl rfl
  exact (ss_cons (s_expr (e_call way_F T.ok_look_at_size (hr.mono (by decide)) (by rfl) T.g_look_at_size T.k_look_at_size T.b_look_at_size tk (a_cons (e_var 0 (pv 0)) a_nil)))
  (ss_cons (s_expr (e_call way_F T.ok_look_at_order (hr.mono (by decide)) (by rfl) T.g_look_at_order T.k_look_at_order T.b_look_at_order tk (a_cons (e_var 1 (pv 1)) a_nil)))
  (ss_one (s_ret (e_lc (own := [("first", 2)]) finR fin_R rfl sc_runs.nd  (i_range3 (by rfl) T.z_range (a_cons (e_c pe_int rint) (a_cons (e_var 0 (pv 0)) (a_cons (e_ixA (hu_of hr) rfl (e_c (C8.pe_gc rfl T.v_MANY) T.r_MANY) (e_var 1 (pv 1)) (fun _ _ => rfl)) a_nil)))) (blkOk_by (own := [("first", 2)]) (N := N_runs) (sc := defScope s_runs) (by decide +kernel)) (rd_name (by decide)) (fun _ _ _ _ _ => (pg_name (i := 2) sc_runs.nd rfl (Or.inl rfl))) (fun _ _ _ _ _ => pts0) (fun _ _ _ _ _ => (e_tup (a_cons (e_var 1 (pv 1)) (a_cons (e_var 2 (pv 2)) a_nil)))))))))
theorem Tx.k_law_pool (T : Tx P w K mg base ca) : PySem.W.keepIn K (.ref T.f_law_pool) = true := T.F_law_pool.kp
theorem Tx.b_law_pool (T : Tx P w K mg base ca) : Binds K T.d_law_pool ["_law_script", "_law_k"] [] := T.F_law_pool.binds fun _ _ _ _ _ _ us hl => match us, hl with | [_, _], _ => rfl
theorem Tx.ok_law_pool (T : Tx P w K mg base ca) : FnOk P w K mg base (L2.CX P w) 1 T.f_law_pool T.d_law_pool ["_law_script", "_law_k"] (spM (C.mk K ca) 2 m_law_pool) := by
  refine fn_okM (c := C.mk K ca) T.F_law_pool sc_law_pool fun cdv A outer s H E hr => ?_
  have tk := takes_of (X := cxOf (L2.CX P w) P w K mg base N_law_pool "_law_pool" (defScope s_law_pool) T.f_law_pool cdv A outer s H E) rfl rfl rfl rfl
  exact (ss_cons (s_set (i := 2) sc_law_pool.nd rfl (Or.inl rfl) (e_c pe_int rint))
  (ss_cons (s_if (t_cmp op_lt p_lt (e_var 1 (pv 1)) (e_builtin call_len p_len (by rfl) T.z_len (by decide +kernel) (a_cons (e_var 0 (pv 0)) a_nil)) (nomark _))
  (ss_one (s_set (i := 2) sc_law_pool.nd rfl (Or.inl rfl) (e_ixA (hu_of hr) rfl (e_var 0 (pv 0)) (e_var 1 (pv 1)) (fun _ _ => rfl))))
  ss_nil)
  (ss_cons (s_set (i := 3) sc_law_pool.nd rfl (Or.inl rfl) (e_builtin (call_max2 rfl) p_max (by rfl) T.z_max (by decide +kernel) (a_cons (e_var 2 (pv 2)) (a_cons (e_op op_sub p_sub (e_un un_neg p_neg (e_c pe_int rint)) (e_var 2 (pv 2))) a_nil))))
  (ss_cons (s_set (i := 4) sc_law_pool.nd rfl (Or.inl rfl) (e_op op_mod p_mod (e_op op_mulA (p_mulA finN_V) (e_op op_add4 (p_add finN_V) (e_op op_add4 (p_add finN_V) (e_op op_add4 (p_add finN_V) (e_op op_mod p_mod (e_var 3 (pv 3)) (e_c pe_int rint)) (e_op op_mulA (p_mulA finN_V) (e_op op_mulA (p_mulA finN_V) (e_c pe_int rint) (e_var 1 (pv 1))) (e_var 1 (pv 1)))) (e_op op_mulA (p_mulA finN_V) (e_c pe_int rint) (e_var 1 (pv 1)))) (e_c pe_int rint)) (e_c pe_int rint)) (e_c pe_int rint)))
  (ss_one (s_ret (e_lst (a_cons (e_op op_mulA (p_mulA finN_V) (e_var 3 (pv 3)) (e_builtinTy call_int1 p_int (by rfl) T.z_int (by decide +kernel) (a_cons (e_cmp op_ge p_ge (e_var 3 (pv 3)) (e_op op_pow p_pow (e_c pe_int rint) (e_c pe_int rint)) (nomark _)) a_nil))) (a_cons (e_var 4 (pv 4)) a_nil)))))))))
theorem Tx.k_law_draw (T : Tx P w K mg base ca) : PySem.W.keepIn K (.ref T.f_law_draw) = true := T.F_law_draw.kp
theorem Tx.b_law_draw (T : Tx P w K mg base ca) : Binds K T.d_law_draw ["_law_pool_here", "_law_many"] [] := T.F_law_draw.binds fun _ _ _ _ _ _ us hl => match us, hl with | [_, _], _ => rfl
theorem Tx.ok_law_draw (T : Tx P w K mg base ca) : FnOk P w K mg base (L2.CX P w) 1 T.f_law_draw T.d_law_draw ["_law_pool_here", "_law_many"] (spM (C.mk K ca) 2 m_law_draw) := by
  refine fn_okM (c := C.mk K ca) T.F_law_draw sc_law_draw fun cdv A outer s H E hr => ?_
  have tk := takes_of (X := cxOf (L2.CX P w) P w K mg base N_law_draw "_law_draw" (defScope s_law_draw) T.f_law_draw cdv A outer s H E) rfl rfl rfl rfl
  exact (ss_cons (s_if (t_cmp op_gt p_gt (e_ixA (hu_of hr) rfl (e_var 0 (pv 0)) (e_c pe_int rint) (fun _ _ => rfl)) (e_c pe_int rint) (nomark _))
  (ss_cons (s_set (i := 2) sc_law_draw.nd rfl (Or.inl rfl) (e_op op_mod p_mod (e_ixA (hu_of hr) rfl (e_var 0 (pv 0)) (e_c pe_int rint) (fun _ _ => rfl)) (e_var 1 (pv 1))))
  (ss_cons (s_setA (hu_of hr) (e_op op_fdiv p_div (e_ixA (hu_of hr) rfl (e_var 0 (pv 0)) (e_c pe_int rint) (fun _ _ => rfl)) (e_var 1 (pv 1))) (e_var 0 (pv 0)) (e_c pe_int rint))
  (ss_one (s_ret (e_var 2 (pv 2))))))
  ss_nil)
  (ss_cons (s_setA (hu_of hr) (e_op op_mod p_mod (e_op op_add4 (p_add finN_V) (e_op op_mulA (p_mulA finN_V) (e_ixA (hu_of hr) rfl (e_var 0 (pv 0)) (e_c pe_int rint) (fun _ _ => rfl)) (e_c pe_int rint)) (e_c pe_int rint)) (e_c pe_int rint)) (e_var 0 (pv 0)) (e_c pe_int rint))
  (ss_one (s_ret (e_op op_mod p_mod (e_op op_fdiv p_div (e_op op_mod p_mod (e_op op_mulA (p_mulA finN_V) (e_ixA (hu_of hr) rfl (e_var 0 (pv 0)) (e_c pe_int rint) (fun _ _ => rfl)) (e_ixA (hu_of hr) rfl (e_var 0 (pv 0)) (e_c pe_int rint) (fun _ _ => rfl))) (e_c pe_int rint)) (e_c pe_int rint)) (e_var 1 (pv 1)))))))
theorem Tx.k_law_right (T : Tx P w K mg base ca) : PySem.W.keepIn K (.ref T.f_law_right) = true := T.F_law_right.kp
theorem Tx.b_law_right (T : Tx P w K mg base ca) : Binds K T.d_law_right ["_law_span", "_law_level"] [] := T.F_law_right.binds fun _ _ _ _ _ _ us hl => match us, hl with | [_, _], _ => rfl
theorem Tx.ok_law_right (T : Tx P w K mg base ca) : FnOk P w K mg base (L2.CX P w) 8 T.f_law_right T.d_law_right ["_law_span", "_law_level"] (spM (C.mk K ca) 2 m_law_right) := by
  refine fn_okM (c := C.mk K ca) T.F_law_right sc_law_right fun cdv A outer s H E hr => ?_
  have tk := takes_of (X := cxOf (L2.CX P w) P w K mg base N_law_right "_law_right" (defScope s_law_right) T.f_law_right cdv A outer s H E) rfl rfl rfl rfl
  exact (ss_cons (s_set (i := 2) sc_law_right.nd rfl (Or.inr rfl) (e_ixA (hu_of hr) rfl (e_lv (a_cons (e_c pe_int rint) (a_cons (e_c pe_int rint) (a_cons (e_c pe_int rint) (a_cons (e_c pe_int rint) a_nil))))) (e_var 1 (pv 1)) (fun _ _ => rfl)))
  (ss_cons (s_set (i := 3) sc_law_right.nd rfl (Or.inl rfl) (e_call way_R T.ok_runs (hr.mono (by decide)) (by rfl) T.g_runs T.k_runs T.b_runs tk (a_cons (e_var 0 (pv 0)) (a_cons (e_var 1 (pv 1)) a_nil))))
  (ss_cons (s_if (t_cmp (op_neA hr.units) p_neA (e_var 3 (pv 3)) (e_lc (own := [("_law_k", 10)]) finV fin_V rfl sc_law_right.nd  (i_range1 (by rfl) T.z_range (a_cons (e_op op_fdiv p_div (e_var 0 (pv 0)) (e_var 2 (pv 2))) a_nil)) (blkOk_by (own := [("_law_k", 10)]) (N := N_law_right) (sc := defScope s_law_right) (by decide +kernel)) (rd_name (by decide)) (fun _ _ _ _ _ => (pg_name (i := 10) sc_law_right.nd rfl (Or.inl rfl))) (fun _ _ _ _ _ => pts0) (fun _ _ _ _ _ => (e_tup (a_cons (e_var 1 (pv 1)) (a_cons (e_op op_mulA (p_mulA finN_V) (e_var 2 (pv 2)) (e_var 10 (pv 10))) a_nil))))) (nomark _))
  (ss_one (s_ret (e_c pe_bl rbl)))
  ss_nil)
  (ss_cons (s_expr (e_methL rfl PySem.F.slot_list_append PySem.F.type_list_append mt_append p_append (e_var 3 (pv 3)) (a_cons (e_c pe_non rnon) a_nil)))
  (ss_cons (s_if (t_cmp (op_neA hr.units) p_neA (e_builtin call_len p_len (by rfl) T.z_len (by decide +kernel) (a_cons (e_callK0 g_kb_runs_10 way_F T.ok_runs (hr.mono (by decide)) (by rfl) T.g_runs T.k_runs T.kb_runs_10 r_kb_runs_10 (k_cons (e_var 1 (pv 1)) (k_cons (e_var 0 (pv 0)) k_nil))) a_nil)) (e_op op_fdiv p_div (e_var 0 (pv 0)) (e_var 2 (pv 2))) (nomark _))
  (ss_one (s_ret (e_c pe_bl rbl)))
  ss_nil)
  (ss_cons (s_if (PW.pt (w_or (t_cmp op_isNotA p_isnot (e_callK0 g_kb_is_size_0 way_F T.ok_is_size (hr.mono (by decide)) (by rfl) T.g_is_size T.k_is_size T.kb_is_size_0 r_kb_is_size_0 (k_cons (e_var 0 (pv 0)) k_nil)) (e_c pe_bl rbl) (nomark _)) (w_one2 (t_cmp op_isNotA p_isnot (e_callK0 g_kb_is_order_0 way_F T.ok_is_order (hr.mono (by decide)) (by rfl) T.g_is_order T.k_is_order T.kb_is_order_0 r_kb_is_order_0 (k_cons (e_var 1 (pv 1)) k_nil)) (e_c pe_bl rbl) (nomark _)))))
  (ss_one (s_ret (e_c pe_bl rbl)))
  ss_nil)
  (ss_cons (s_if (t_cmp (op_neA hr.units) p_neA (e_lc (own := [("_law_one", 4)]) finV fin_V rfl sc_law_right.nd  (i_list rfl (e_slice finN_V rfl (e_var 3 (pv 3)) o_none (o_some (e_un un_neg p_neg (e_c pe_int rint))))) (blkOk_by (own := [("_law_one", 4)]) (N := N_law_right) (sc := defScope s_law_right) (by decide +kernel)) (rd_name (by decide)) (fun _ _ _ _ _ => (pg_name (i := 4) sc_law_right.nd rfl (Or.inl rfl))) (fun _ _ _ _ _ => (pts1 (t_cmp op_isNotA p_isnot (e_callK0 g_kb_is_run_10 way_F T.ok_is_run (hr.mono (by decide)) (by rfl) T.g_is_run T.k_is_run T.kb_is_run_10 r_kb_is_run_10 (k_cons (e_var 4 (pv 4)) (k_cons (e_var 0 (pv 0)) k_nil))) (e_c pe_bl rbl) (nomark _)))) (fun _ _ _ _ _ => (e_var 4 (pv 4)))) (e_lv a_nil) (nomark _))
  (ss_one (s_ret (e_c pe_bl rbl)))
  ss_nil)
  (ss_cons (s_for (passes_of rfl) rfl (i_list rfl (e_slice finN_V rfl (e_var 3 (pv 3)) o_none (o_some (e_un un_neg p_neg (e_c pe_int rint))))) (g_name (i := 4) sc_law_right.nd rfl (Or.inr rfl)) (ss_gc [4, 5, 6]
  (ss_cons (s_set (i := 5) sc_law_right.nd rfl (Or.inl rfl) (e_call way_R T.ok_frames_of (hr.mono (by decide)) (by rfl) T.g_frames_of T.k_frames_of T.b_frames_of tk (a_cons (e_var 0 (pv 0)) (a_cons (e_var 4 (pv 4)) a_nil))))
  (ss_cons (s_if (PW.pt (w_or (t_cmp (op_neA hr.units) p_neA (e_var 5 (pv 5)) (e_lc (own := [("_law_k", 10)]) finV fin_V rfl sc_law_right.nd  (i_range1 (by rfl) T.z_range (a_cons (e_var 2 (pv 2)) a_nil)) (blkOk_by (own := [("_law_k", 10)]) (N := N_law_right) (sc := defScope s_law_right) (by decide +kernel)) (rd_name (by decide)) (fun _ _ _ _ _ => (pg_name (i := 10) sc_law_right.nd rfl (Or.inl rfl))) (fun _ _ _ _ _ => pts0) (fun _ _ _ _ _ => (e_op op_add4 (p_add finN_V) (e_ixA (hu_of hr) rfl (e_var 4 (pv 4)) (e_c pe_int rint) (fun _ _ => rfl)) (e_var 10 (pv 10))))) (nomark _)) (w_one2 (t_cmp (op_neA hr.units) p_neA (e_callK0 g_kb_frames_of_10 way_F T.ok_frames_of (hr.mono (by decide)) (by rfl) T.g_frames_of T.k_frames_of T.kb_frames_of_10 r_kb_frames_of_10 (k_cons (e_var 4 (pv 4)) (k_cons (e_var 0 (pv 0)) k_nil))) (e_var 5 (pv 5)) (nomark _)))))
  (ss_one (s_ret (e_c pe_bl rbl)))
  ss_nil)
  (ss_cons (s_expr (e_methL rfl PySem.F.slot_list_append PySem.F.type_list_append mt_append p_append (e_var 5 (pv 5)) (a_cons (e_c pe_int rint) a_nil)))
  (ss_cons (s_if (t_cmp (op_neA hr.units) p_neA (e_call way_F T.ok_frames_of (hr.mono (by decide)) (by rfl) T.g_frames_of T.k_frames_of T.b_frames_of tk (a_cons (e_var 0 (pv 0)) (a_cons (e_var 4 (pv 4)) a_nil))) (e_slice finN_V rfl (e_var 5 (pv 5)) o_none (o_some (e_un un_neg p_neg (e_c pe_int rint)))) (nomark _))
  (ss_one (s_ret (e_c pe_bl rbl)))
  ss_nil)
  (ss_cons (s_for (passes_of rfl) rfl (i_list rfl (e_slice finN_V rfl (e_var 5 (pv 5)) o_none (o_some (e_un un_neg p_neg (e_c pe_int rint))))) (g_name (i := 6) sc_law_right.nd rfl (Or.inl rfl)) (ss_gc [6]
  (ss_one (s_if (PW.pt (w_or (t_cmp (op_neA hr.units) p_neA (e_call way_F T.ok_run_with (hr.mono (by decide)) (by rfl) T.g_run_with T.k_run_with T.b_run_with tk (a_cons (e_var 0 (pv 0)) (a_cons (e_var 1 (pv 1)) (a_cons (e_var 6 (pv 6)) a_nil)))) (e_var 4 (pv 4)) (nomark _)) (w_one2 (t_cmp (op_neA hr.units) p_neA (e_callK0 g_kb_run_with_210 way_F T.ok_run_with (hr.mono (by decide)) (by rfl) T.g_run_with T.k_run_with T.kb_run_with_210 r_kb_run_with_210 (k_cons (e_var 6 (pv 6)) (k_cons (e_var 1 (pv 1)) (k_cons (e_var 0 (pv 0)) k_nil)))) (e_var 4 (pv 4)) (nomark _)))))
  (ss_one (s_ret (e_c pe_bl rbl)))
  ss_nil))))
  (ss_cons (s_if (t_cmp op_gt p_gt (e_var 1 (pv 1)) (e_c pe_int rint) (nomark _))
  (ss_cons (s_set (i := 7) sc_law_right.nd rfl (Or.inl rfl) (e_callK0 g_kb_halves_10 way_F T.ok_halves (hr.mono (by decide)) (by rfl) T.g_halves T.k_halves T.kb_halves_10 r_kb_halves_10 (k_cons (e_var 4 (pv 4)) (k_cons (e_var 0 (pv 0)) k_nil))))
  (ss_one (s_if (PW.pt (w_or (t_cmp (op_neA hr.units) p_neA (e_var 7 (pv 7)) (e_lv (a_cons (e_tup (a_cons (e_op op_sub p_sub (e_var 1 (pv 1)) (e_c pe_int rint)) (a_cons (e_ixA (hu_of hr) rfl (e_var 4 (pv 4)) (e_c pe_int rint) (fun _ _ => rfl)) a_nil))) (a_cons (e_tup (a_cons (e_op op_sub p_sub (e_var 1 (pv 1)) (e_c pe_int rint)) (a_cons (e_op op_add4 (p_add finN_V) (e_ixA (hu_of hr) rfl (e_var 4 (pv 4)) (e_c pe_int rint) (fun _ _ => rfl)) (e_op op_fdiv p_div (e_var 2 (pv 2)) (e_c pe_int rint))) a_nil))) a_nil))) (nomark _)) (w_one2 (t_cmp (op_neA hr.units) p_neA (e_call way_F T.ok_halves (hr.mono (by decide)) (by rfl) T.g_halves T.k_halves T.b_halves tk (a_cons (e_var 0 (pv 0)) (a_cons (e_var 4 (pv 4)) a_nil))) (e_var 7 (pv 7)) (nomark _)))))
  (ss_one (s_ret (e_c pe_bl rbl)))
  ss_nil)))
  ss_nil)
  (ss_one (s_if (t_cmp op_lt p_lt (e_var 1 (pv 1)) (e_c pe_int rint) (nomark _))
  (ss_cons (s_set (i := 8) sc_law_right.nd rfl (Or.inl rfl) (e_call way_F T.ok_fellow (hr.mono (by decide)) (by rfl) T.g_fellow T.k_fellow T.b_fellow tk (a_cons (e_var 0 (pv 0)) (a_cons (e_var 4 (pv 4)) a_nil))))
  (ss_cons (s_set (i := 9) sc_law_right.nd rfl (Or.inl rfl) (e_builtin cr_sortA (p_sort finN_V) (by rfl) T.z_sorted (by decide +kernel) (a_cons (e_op op_add4 (p_add finN_V) (e_call way_F T.ok_frames_of (hr.mono (by decide)) (by rfl) T.g_frames_of T.k_frames_of T.b_frames_of tk (a_cons (e_var 0 (pv 0)) (a_cons (e_var 4 (pv 4)) a_nil))) (e_call way_F T.ok_frames_of (hr.mono (by decide)) (by rfl) T.g_frames_of T.k_frames_of T.b_frames_of tk (a_cons (e_var 0 (pv 0)) (a_cons (e_var 8 (pv 8)) a_nil)))) a_nil)))
  (ss_one (s_if (PW.pt (w_or (t_cmp (op_neA hr.units) p_neA (e_call way_F T.ok_frames_of (hr.mono (by decide)) (by rfl) T.g_frames_of T.k_frames_of T.b_frames_of tk (a_cons (e_var 0 (pv 0)) (a_cons (e_call way_F T.ok_run_with (hr.mono (by decide)) (by rfl) T.g_run_with T.k_run_with T.b_run_with tk (a_cons (e_var 0 (pv 0)) (a_cons (e_op op_add4 (p_add finN_V) (e_var 1 (pv 1)) (e_c pe_int rint)) (a_cons (e_ixA (hu_of hr) rfl (e_var 4 (pv 4)) (e_c pe_int rint) (fun _ _ => rfl)) a_nil)))) a_nil))) (e_var 9 (pv 9)) (nomark _)) (w_one2 (t_cmp (op_neA hr.units) p_neA (e_callK0 g_kb_fellow_10 way_F T.ok_fellow (hr.mono (by decide)) (by rfl) T.g_fellow T.k_fellow T.kb_fellow_10 r_kb_fellow_10 (k_cons (e_var 8 (pv 8)) (k_cons (e_var 0 (pv 0)) k_nil))) (e_var 4 (pv 4)) (nomark _)))))
  (ss_one (s_ret (e_c pe_bl rbl)))
  ss_nil))))
  ss_nil))))))))))
  (ss_one (s_ret (e_c pe_bl rbl)))))))))))
theorem Tx.k_law (T : Tx P w K mg base ca) : PySem.W.keepIn K (.ref T.f_law) = true := T.F_law.kp
theorem Tx.b_law (T : Tx P w K mg base ca) : Binds K T.d_law ["_law_script"] [] := T.F_law.binds fun _ _ _ _ _ _ us hl => match us, hl with | [_], _ => rfl
theorem Tx.ok_law (T : Tx P w K mg base ca) : FnOk P w K mg base (L2.CX P w) 9 T.f_law T.d_law ["_law_script"] (spM (C.mk K ca) 1 m_law) := by
  refine fn_okM (c := C.mk K ca) T.F_law sc_law fun cdv A outer s H E hr => ?_
  have tk := takes_of (X := cxOf (L2.CX P w) P w K mg base N_law "law" (defScope s_law) T.f_law cdv A outer s H E) rfl rfl rfl rfl
  exact (ss_cons (s_for (passes_of rfl) rfl (i_range1 (by rfl) T.z_range (a_cons (e_builtin (call_max2 rfl) p_max (by rfl) T.z_max (by decide +kernel) (a_cons (e_c pe_int rint) (a_cons (e_builtin (call_min2 rfl) p_min (by rfl) T.z_min (by decide +kernel) (a_cons (e_c pe_int rint) (a_cons (e_builtin call_len p_len (by rfl) T.z_len (by decide +kernel) (a_cons (e_var 0 (pv 0)) a_nil)) a_nil))) a_nil))) a_nil)) (g_name (i := 1) sc_law.nd rfl (Or.inl rfl)) (ss_gc [1, 2, 3, 4]
  (ss_cons (s_set (i := 2) sc_law.nd rfl (Or.inl rfl) (e_call way_R T.ok_law_pool (hr.mono (by decide)) (by rfl) T.g_law_pool T.k_law_pool T.b_law_pool tk (a_cons (e_var 0 (pv 0)) (a_cons (e_var 1 (pv 1)) a_nil))))
  (ss_cons (s_set (i := 3) sc_law.nd rfl (Or.inl rfl) (e_op op_mulA (p_mulA finN_V) (e_c pe_int rint) (e_op op_add4 (p_add finN_V) (e_c pe_int rint) (e_call way_F T.ok_law_draw (hr.mono (by decide)) (by rfl) T.g_law_draw T.k_law_draw T.b_law_draw tk (a_cons (e_var 2 (pv 2)) (a_cons (e_c pe_int rint) a_nil))))))
  (ss_one (s_for (passes_of rfl) rfl (i_range1 (by rfl) T.z_range (a_cons (e_c pe_int rint) a_nil)) (g_name (i := 4) sc_law.nd rfl (Or.inl rfl)) (ss_gc [4]
  (ss_one (s_if (t_not (t_tru (e_call way_F T.ok_law_right (hr.mono (by decide)) (by rfl) T.g_law_right T.k_law_right T.b_law_right tk (a_cons (e_var 3 (pv 3)) (a_cons (e_var 4 (pv 4)) a_nil)))))
  (ss_one (s_ret (e_c pe_bl rbl)))
  ss_nil)))))))))
  (ss_one (s_ret (e_c pe_bl rbl))))
end
end MP

namespace MP
open PySem PySem.Spec PyProof.Rows L2
def tx_mk (P : Program) (w : World) (base : Heap) (ca : Nat → Addr) {K : PySem.W.Frag} {mg : Str → Option Value} {h : Heap} (X : K.In h) (G : h.Ns mainGlobals mg) {t_LOT : Tok} {t_MANY_0 : Tok} {t_MANY_1 : Tok} {t_MANY_2 : Tok} {t_MANY_3 : Tok} {a_MANY : Addr} {od_MANY : Option Addr} {n_MANY : Nat} {sl_MANY : Array (Option Value)} {t_MOST_ORDER : Tok} {t_MOST_SIZE : Tok} {f_is_whole : Addr} {oc_is_whole : Value} {kV_is_whole : Value} {dc_is_whole : Value} {pm_is_whole : Value} {cd_is_whole : Value} {ct_is_whole : Value} {od_is_whole an_is_whole : Option Addr} {sl_is_whole : Array (Option Value)} {f_is_from : Addr} {oc_is_from : Value} {kV_is_from : Value} {dc_is_from : Value} {pm_is_from : Value} {cd_is_from : Value} {ct_is_from : Value} {od_is_from an_is_from : Option Addr} {sl_is_from : Array (Option Value)} {f_is_size : Addr} {oc_is_size : Value} {kV_is_size : Value} {dc_is_size : Value} {pm_is_size : Value} {cd_is_size : Value} {ct_is_size : Value} {od_is_size an_is_size : Option Addr} {sl_is_size : Array (Option Value)} {f_is_order : Addr} {oc_is_order : Value} {kV_is_order : Value} {dc_is_order : Value} {pm_is_order : Value} {cd_is_order : Value} {ct_is_order : Value} {od_is_order an_is_order : Option Addr} {sl_is_order : Array (Option Value)} {f_is_frame : Addr} {oc_is_frame : Value} {kV_is_frame : Value} {dc_is_frame : Value} {pm_is_frame : Value} {cd_is_frame : Value} {ct_is_frame : Value} {od_is_frame an_is_frame : Option Addr} {sl_is_frame : Array (Option Value)} {f_look_at_size : Addr} {oc_look_at_size : Value} {kV_look_at_size : Value} {dc_look_at_size : Value} {pm_look_at_size : Value} {cd_look_at_size : Value} {ct_look_at_size : Value} {od_look_at_size an_look_at_size : Option Addr} {sl_look_at_size : Array (Option Value)} {f_look_at_order : Addr} {oc_look_at_order : Value} {kV_look_at_order : Value} {dc_look_at_order : Value} {pm_look_at_order : Value} {cd_look_at_order : Value} {ct_look_at_order : Value} {od_look_at_order an_look_at_order : Option Addr} {sl_look_at_order : Array (Option Value)} {f_is_run : Addr} {oc_is_run : Value} {kV_is_run : Value} {dc_is_run : Value} {pm_is_run : Value} {cd_is_run : Value} {ct_is_run : Value} {od_is_run an_is_run : Option Addr} {sl_is_run : Array (Option Value)} {f_look_at_run : Addr} {oc_look_at_run : Value} {kV_look_at_run : Value} {dc_look_at_run : Value} {pm_look_at_run : Value} {cd_look_at_run : Value} {ct_look_at_run : Value} {od_look_at_run an_look_at_run : Option Addr} {sl_look_at_run : Array (Option Value)} {f_frames_of : Addr} {oc_frames_of : Value} {kV_frames_of : Value} {dc_frames_of : Value} {pm_frames_of : Value} {cd_frames_of : Value} {ct_frames_of : Value} {od_frames_of an_frames_of : Option Addr} {sl_frames_of : Array (Option Value)} {f_halves : Addr} {oc_halves : Value} {kV_halves : Value} {dc_halves : Value} {pm_halves : Value} {cd_halves : Value} {ct_halves : Value} {od_halves an_halves : Option Addr} {sl_halves : Array (Option Value)} {f_run_with : Addr} {oc_run_with : Value} {kV_run_with : Value} {dc_run_with : Value} {pm_run_with : Value} {cd_run_with : Value} {ct_run_with : Value} {od_run_with an_run_with : Option Addr} {sl_run_with : Array (Option Value)} {f_fellow : Addr} {oc_fellow : Value} {kV_fellow : Value} {dc_fellow : Value} {pm_fellow : Value} {cd_fellow : Value} {ct_fellow : Value} {od_fellow an_fellow : Option Addr} {sl_fellow : Array (Option Value)} {f_runs : Addr} {oc_runs : Value} {kV_runs : Value} {dc_runs : Value} {pm_runs : Value} {cd_runs : Value} {ct_runs : Value} {od_runs an_runs : Option Addr} {sl_runs : Array (Option Value)} {f_law_pool : Addr} {oc_law_pool : Value} {kV_law_pool : Value} {dc_law_pool : Value} {pm_law_pool : Value} {cd_law_pool : Value} {ct_law_pool : Value} {od_law_pool an_law_pool : Option Addr} {sl_law_pool : Array (Option Value)} {f_law_draw : Addr} {oc_law_draw : Value} {kV_law_draw : Value} {dc_law_draw : Value} {pm_law_draw : Value} {cd_law_draw : Value} {ct_law_draw : Value} {od_law_draw an_law_draw : Option Addr} {sl_law_draw : Array (Option Value)} {f_law_right : Addr} {oc_law_right : Value} {kV_law_right : Value} {dc_law_right : Value} {pm_law_right : Value} {cd_law_right : Value} {ct_law_right : Value} {od_law_right an_law_right : Option Addr} {sl_law_right : Array (Option Value)} {f_law : Addr} {oc_law : Value} {kV_law : Value} {dc_law : Value} {pm_law : Value} {cd_law : Value} {ct_law : Value} {od_law an_law : Option Addr} {sl_law : Array (Option Value)}
  (z_bool : PySem.W.nsIn K mainGlobals "bool" = some none)
  (z_int : PySem.W.nsIn K mainGlobals "int" = some none)
  (z_isinstance : PySem.W.nsIn K mainGlobals "isinstance" = some none)
  (z_len : PySem.W.nsIn K mainGlobals "len" = some none)
  (z_list : PySem.W.nsIn K mainGlobals "list" = some none)
  (z_max : PySem.W.nsIn K mainGlobals "max" = some none)
  (z_min : PySem.W.nsIn K mainGlobals "min" = some none)
  (z_range : PySem.W.nsIn K mainGlobals "range" = some none)
  (z_sorted : PySem.W.nsIn K mainGlobals "sorted" = some none)
  (z_tuple : PySem.W.nsIn K mainGlobals "tuple" = some none)
  (x_LOT : PySem.W.nsIn K mainGlobals "LOT" = some (some (.int (8) t_LOT)))
  (x_MANY : PySem.W.nsIn K mainGlobals "MANY" = some (some (.ref a_MANY)))
  (y_MANY : K.lookup a_MANY = some ⟨.type "tuple", od_MANY, .seq #[Value.int 1 t_MANY_0, Value.int 2 t_MANY_1, Value.int 4 t_MANY_2, Value.int 8 t_MANY_3] n_MANY, sl_MANY⟩)
  (x_MOST_ORDER : PySem.W.nsIn K mainGlobals "MOST_ORDER" = some (some (.int (3) t_MOST_ORDER)))
  (x_MOST_SIZE : PySem.W.nsIn K mainGlobals "MOST_SIZE" = some (some (.int (64) t_MOST_SIZE)))
  (a_is_whole : PySem.W.nsIn K mainGlobals "is_whole" = some (some (.ref f_is_whole)))
  (l_is_whole : K.lookup f_is_whole = some ⟨oc_is_whole, od_is_whole, .func (PySem.W.fnOf "is_whole" "is_whole" (defArgs s_is_whole) (defBody s_is_whole) (defScope s_is_whole) .none kV_is_whole dc_is_whole pm_is_whole an_is_whole cd_is_whole ct_is_whole), sl_is_whole⟩)
  (c_is_whole : PySem.W.codeIn K cd_is_whole "is_whole" = true)
  (k_is_whole : PySem.W.keepIn K (.ref f_is_whole) = true)
  (a_is_from : PySem.W.nsIn K mainGlobals "is_from" = some (some (.ref f_is_from)))
  (l_is_from : K.lookup f_is_from = some ⟨oc_is_from, od_is_from, .func (PySem.W.fnOf "is_from" "is_from" (defArgs s_is_from) (defBody s_is_from) (defScope s_is_from) .none kV_is_from dc_is_from pm_is_from an_is_from cd_is_from ct_is_from), sl_is_from⟩)
  (c_is_from : PySem.W.codeIn K cd_is_from "is_from" = true)
  (k_is_from : PySem.W.keepIn K (.ref f_is_from) = true)
  (a_is_size : PySem.W.nsIn K mainGlobals "is_size" = some (some (.ref f_is_size)))
  (l_is_size : K.lookup f_is_size = some ⟨oc_is_size, od_is_size, .func (PySem.W.fnOf "is_size" "is_size" (defArgs s_is_size) (defBody s_is_size) (defScope s_is_size) .none kV_is_size dc_is_size pm_is_size an_is_size cd_is_size ct_is_size), sl_is_size⟩)
  (c_is_size : PySem.W.codeIn K cd_is_size "is_size" = true)
  (k_is_size : PySem.W.keepIn K (.ref f_is_size) = true)
  (a_is_order : PySem.W.nsIn K mainGlobals "is_order" = some (some (.ref f_is_order)))
  (l_is_order : K.lookup f_is_order = some ⟨oc_is_order, od_is_order, .func (PySem.W.fnOf "is_order" "is_order" (defArgs s_is_order) (defBody s_is_order) (defScope s_is_order) .none kV_is_order dc_is_order pm_is_order an_is_order cd_is_order ct_is_order), sl_is_order⟩)
  (c_is_order : PySem.W.codeIn K cd_is_order "is_order" = true)
  (k_is_order : PySem.W.keepIn K (.ref f_is_order) = true)
  (a_is_frame : PySem.W.nsIn K mainGlobals "is_frame" = some (some (.ref f_is_frame)))
  (l_is_frame : K.lookup f_is_frame = some ⟨oc_is_frame, od_is_frame, .func (PySem.W.fnOf "is_frame" "is_frame" (defArgs s_is_frame) (defBody s_is_frame) (defScope s_is_frame) .none kV_is_frame dc_is_frame pm_is_frame an_is_frame cd_is_frame ct_is_frame), sl_is_frame⟩)
  (c_is_frame : PySem.W.codeIn K cd_is_frame "is_frame" = true)
  (k_is_frame : PySem.W.keepIn K (.ref f_is_frame) = true)
  (a_look_at_size : PySem.W.nsIn K mainGlobals "look_at_size" = some (some (.ref f_look_at_size)))
  (l_look_at_size : K.lookup f_look_at_size = some ⟨oc_look_at_size, od_look_at_size, .func (PySem.W.fnOf "look_at_size" "look_at_size" (defArgs s_look_at_size) (defBody s_look_at_size) (defScope s_look_at_size) .none kV_look_at_size dc_look_at_size pm_look_at_size an_look_at_size cd_look_at_size ct_look_at_size), sl_look_at_size⟩)
  (c_look_at_size : PySem.W.codeIn K cd_look_at_size "look_at_size" = true)
  (k_look_at_size : PySem.W.keepIn K (.ref f_look_at_size) = true)
  (a_look_at_order : PySem.W.nsIn K mainGlobals "look_at_order" = some (some (.ref f_look_at_order)))
  (l_look_at_order : K.lookup f_look_at_order = some ⟨oc_look_at_order, od_look_at_order, .func (PySem.W.fnOf "look_at_order" "look_at_order" (defArgs s_look_at_order) (defBody s_look_at_order) (defScope s_look_at_order) .none kV_look_at_order dc_look_at_order pm_look_at_order an_look_at_order cd_look_at_order ct_look_at_order), sl_look_at_order⟩)
  (c_look_at_order : PySem.W.codeIn K cd_look_at_order "look_at_order" = true)
  (k_look_at_order : PySem.W.keepIn K (.ref f_look_at_order) = true)
  (a_is_run : PySem.W.nsIn K mainGlobals "is_run" = some (some (.ref f_is_run)))
  (l_is_run : K.lookup f_is_run = some ⟨oc_is_run, od_is_run, .func (PySem.W.fnOf "is_run" "is_run" (defArgs s_is_run) (defBody s_is_run) (defScope s_is_run) .none kV_is_run dc_is_run pm_is_run an_is_run cd_is_run ct_is_run), sl_is_run⟩)
  (c_is_run : PySem.W.codeIn K cd_is_run "is_run" = true)
  (k_is_run : PySem.W.keepIn K (.ref f_is_run) = true)
  (a_look_at_run : PySem.W.nsIn K mainGlobals "look_at_run" = some (some (.ref f_look_at_run)))
  (l_look_at_run : K.lookup f_look_at_run = some ⟨oc_look_at_run, od_look_at_run, .func (PySem.W.fnOf "look_at_run" "look_at_run" (defArgs s_look_at_run) (defBody s_look_at_run) (defScope s_look_at_run) .none kV_look_at_run dc_look_at_run pm_look_at_run an_look_at_run cd_look_at_run ct_look_at_run), sl_look_at_run⟩)
  (c_look_at_run : PySem.W.codeIn K cd_look_at_run "look_at_run" = true)
  (k_look_at_run : PySem.W.keepIn K (.ref f_look_at_run) = true)
  (a_frames_of : PySem.W.nsIn K mainGlobals "frames_of" = some (some (.ref f_frames_of)))
  (l_frames_of : K.lookup f_frames_of = some ⟨oc_frames_of, od_frames_of, .func (PySem.W.fnOf "frames_of" "frames_of" (defArgs s_frames_of) (defBody s_frames_of) (defScope s_frames_of) .none kV_frames_of dc_frames_of pm_frames_of an_frames_of cd_frames_of ct_frames_of), sl_frames_of⟩)
  (c_frames_of : PySem.W.codeIn K cd_frames_of "frames_of" = true)
  (k_frames_of : PySem.W.keepIn K (.ref f_frames_of) = true)
  (a_halves : PySem.W.nsIn K mainGlobals "halves" = some (some (.ref f_halves)))
  (l_halves : K.lookup f_halves = some ⟨oc_halves, od_halves, .func (PySem.W.fnOf "halves" "halves" (defArgs s_halves) (defBody s_halves) (defScope s_halves) .none kV_halves dc_halves pm_halves an_halves cd_halves ct_halves), sl_halves⟩)
  (c_halves : PySem.W.codeIn K cd_halves "halves" = true)
  (k_halves : PySem.W.keepIn K (.ref f_halves) = true)
  (a_run_with : PySem.W.nsIn K mainGlobals "run_with" = some (some (.ref f_run_with)))
  (l_run_with : K.lookup f_run_with = some ⟨oc_run_with, od_run_with, .func (PySem.W.fnOf "run_with" "run_with" (defArgs s_run_with) (defBody s_run_with) (defScope s_run_with) .none kV_run_with dc_run_with pm_run_with an_run_with cd_run_with ct_run_with), sl_run_with⟩)
  (c_run_with : PySem.W.codeIn K cd_run_with "run_with" = true)
  (k_run_with : PySem.W.keepIn K (.ref f_run_with) = true)
  (a_fellow : PySem.W.nsIn K mainGlobals "fellow" = some (some (.ref f_fellow)))
  (l_fellow : K.lookup f_fellow = some ⟨oc_fellow, od_fellow, .func (PySem.W.fnOf "fellow" "fellow" (defArgs s_fellow) (defBody s_fellow) (defScope s_fellow) .none kV_fellow dc_fellow pm_fellow an_fellow cd_fellow ct_fellow), sl_fellow⟩)
  (c_fellow : PySem.W.codeIn K cd_fellow "fellow" = true)
  (k_fellow : PySem.W.keepIn K (.ref f_fellow) = true)
  (a_runs : PySem.W.nsIn K mainGlobals "runs" = some (some (.ref f_runs)))
  (l_runs : K.lookup f_runs = some ⟨oc_runs, od_runs, .func (PySem.W.fnOf "runs" "runs" (defArgs s_runs) (defBody s_runs) (defScope s_runs) .none kV_runs dc_runs pm_runs an_runs cd_runs ct_runs), sl_runs⟩)
  (c_runs : PySem.W.codeIn K cd_runs "runs" = true)
  (k_runs : PySem.W.keepIn K (.ref f_runs) = true)
  (a_law_pool : PySem.W.nsIn K mainGlobals "_law_pool" = some (some (.ref f_law_pool)))
  (l_law_pool : K.lookup f_law_pool = some ⟨oc_law_pool, od_law_pool, .func (PySem.W.fnOf "_law_pool" "_law_pool" (defArgs s_law_pool) (defBody s_law_pool) (defScope s_law_pool) .none kV_law_pool dc_law_pool pm_law_pool an_law_pool cd_law_pool ct_law_pool), sl_law_pool⟩)
  (c_law_pool : PySem.W.codeIn K cd_law_pool "_law_pool" = true)
  (k_law_pool : PySem.W.keepIn K (.ref f_law_pool) = true)
  (a_law_draw : PySem.W.nsIn K mainGlobals "_law_draw" = some (some (.ref f_law_draw)))
  (l_law_draw : K.lookup f_law_draw = some ⟨oc_law_draw, od_law_draw, .func (PySem.W.fnOf "_law_draw" "_law_draw" (defArgs s_law_draw) (defBody s_law_draw) (defScope s_law_draw) .none kV_law_draw dc_law_draw pm_law_draw an_law_draw cd_law_draw ct_law_draw), sl_law_draw⟩)
  (c_law_draw : PySem.W.codeIn K cd_law_draw "_law_draw" = true)
  (k_law_draw : PySem.W.keepIn K (.ref f_law_draw) = true)
  (a_law_right : PySem.W.nsIn K mainGlobals "_law_right" = some (some (.ref f_law_right)))
  (l_law_right : K.lookup f_law_right = some ⟨oc_law_right, od_law_right, .func (PySem.W.fnOf "_law_right" "_law_right" (defArgs s_law_right) (defBody s_law_right) (defScope s_law_right) .none kV_law_right dc_law_right pm_law_right an_law_right cd_law_right ct_law_right), sl_law_right⟩)
  (c_law_right : PySem.W.codeIn K cd_law_right "_law_right" = true)
  (k_law_right : PySem.W.keepIn K (.ref f_law_right) = true)
  (a_law : PySem.W.nsIn K mainGlobals "law" = some (some (.ref f_law)))
  (l_law : K.lookup f_law = some ⟨oc_law, od_law, .func (PySem.W.fnOf "law" "law" (defArgs s_law) (defBody s_law) (defScope s_law) .none kV_law dc_law pm_law an_law cd_law ct_law), sl_law⟩)
  (c_law : PySem.W.codeIn K cd_law "law" = true)
  (k_law : PySem.W.keepIn K (.ref f_law) = true) : Tx P w K mg base ca where
  unit := trivial
  z_bool := PySem.W.mg_none_of X G z_bool
  z_int := PySem.W.mg_none_of X G z_int
  z_isinstance := PySem.W.mg_none_of X G z_isinstance
  z_len := PySem.W.mg_none_of X G z_len
  z_list := PySem.W.mg_none_of X G z_list
  z_max := PySem.W.mg_none_of X G z_max
  z_min := PySem.W.mg_none_of X G z_min
  z_range := PySem.W.mg_none_of X G z_range
  z_sorted := PySem.W.mg_none_of X G z_sorted
  z_tuple := PySem.W.mg_none_of X G z_tuple
  w_LOT := .int (8)
  r_LOT := rint
  v_LOT := ⟨_, PySem.W.mg_of X G x_LOT, ⟨_, rfl⟩⟩
  w_MANY := .ref a_MANY
  v_MANY := ⟨_, PySem.W.mg_of X G x_MANY, rfl⟩
  r_MANY := rkt (vs := [V.int 1, V.int 2, V.int 4, V.int 8]) ⟨_, _, _, y_MANY, rfl, rfl, Nat.le_of_ble_eq_true rfl, .cons ⟨_, rfl⟩ (.cons ⟨_, rfl⟩ (.cons ⟨_, rfl⟩ (.cons ⟨_, rfl⟩ (.nil))))⟩ fun _ _ _ => .cons (rint _ _ _) (.cons (rint _ _ _) (.cons (rint _ _ _) (.cons (rint _ _ _) (.nil))))
  w_MOST_ORDER := .int (3)
  r_MOST_ORDER := rint
  v_MOST_ORDER := ⟨_, PySem.W.mg_of X G x_MOST_ORDER, ⟨_, rfl⟩⟩
  w_MOST_SIZE := .int (64)
  r_MOST_SIZE := rint
  v_MOST_SIZE := ⟨_, PySem.W.mg_of X G x_MOST_SIZE, ⟨_, rfl⟩⟩
  f_is_whole := f_is_whole
  d_is_whole := _
  F_is_whole := fun_mk (st := s_is_whole) l_is_whole c_is_whole k_is_whole
  g_is_whole := PySem.W.mg_of X G a_is_whole
  f_is_from := f_is_from
  d_is_from := _
  F_is_from := fun_mk (st := s_is_from) l_is_from c_is_from k_is_from
  g_is_from := PySem.W.mg_of X G a_is_from
  f_is_size := f_is_size
  d_is_size := _
  F_is_size := fun_mk (st := s_is_size) l_is_size c_is_size k_is_size
  g_is_size := PySem.W.mg_of X G a_is_size
  f_is_order := f_is_order
  d_is_order := _
  F_is_order := fun_mk (st := s_is_order) l_is_order c_is_order k_is_order
  g_is_order := PySem.W.mg_of X G a_is_order
  f_is_frame := f_is_frame
  d_is_frame := _
  F_is_frame := fun_mk (st := s_is_frame) l_is_frame c_is_frame k_is_frame
  g_is_frame := PySem.W.mg_of X G a_is_frame
  f_look_at_size := f_look_at_size
  d_look_at_size := _
  F_look_at_size := fun_mk (st := s_look_at_size) l_look_at_size c_look_at_size k_look_at_size
  g_look_at_size := PySem.W.mg_of X G a_look_at_size
  f_look_at_order := f_look_at_order
  d_look_at_order := _
  F_look_at_order := fun_mk (st := s_look_at_order) l_look_at_order c_look_at_order k_look_at_order
  g_look_at_order := PySem.W.mg_of X G a_look_at_order
  f_is_run := f_is_run
  d_is_run := _
  F_is_run := fun_mk (st := s_is_run) l_is_run c_is_run k_is_run
  g_is_run := PySem.W.mg_of X G a_is_run
  f_look_at_run := f_look_at_run
  d_look_at_run := _
  F_look_at_run := fun_mk (st := s_look_at_run) l_look_at_run c_look_at_run k_look_at_run
  g_look_at_run := PySem.W.mg_of X G a_look_at_run
  f_frames_of := f_frames_of
  d_frames_of := _
  F_frames_of := fun_mk (st := s_frames_of) l_frames_of c_frames_of k_frames_of
  g_frames_of := PySem.W.mg_of X G a_frames_of
  f_halves := f_halves
  d_halves := _
  F_halves := fun_mk (st := s_halves) l_halves c_halves k_halves
  g_halves := PySem.W.mg_of X G a_halves
  f_run_with := f_run_with
  d_run_with := _
  F_run_with := fun_mk (st := s_run_with) l_run_with c_run_with k_run_with
  g_run_with := PySem.W.mg_of X G a_run_with
  f_fellow := f_fellow
  d_fellow := _
  F_fellow := fun_mk (st := s_fellow) l_fellow c_fellow k_fellow
  g_fellow := PySem.W.mg_of X G a_fellow
  f_runs := f_runs
  d_runs := _
  F_runs := fun_mk (st := s_runs) l_runs c_runs k_runs
  g_runs := PySem.W.mg_of X G a_runs
  f_law_pool := f_law_pool
  d_law_pool := _
  F_law_pool := fun_mk (st := s_law_pool) l_law_pool c_law_pool k_law_pool
  g_law_pool := PySem.W.mg_of X G a_law_pool
  f_law_draw := f_law_draw
  d_law_draw := _
  F_law_draw := fun_mk (st := s_law_draw) l_law_draw c_law_draw k_law_draw
  g_law_draw := PySem.W.mg_of X G a_law_draw
  f_law_right := f_law_right
  d_law_right := _
  F_law_right := fun_mk (st := s_law_right) l_law_right c_law_right k_law_right
  g_law_right := PySem.W.mg_of X G a_law_right
  f_law := f_law
  d_law := _
  F_law := fun_mk (st := s_law) l_law c_law k_law
  g_law := PySem.W.mg_of X G a_law
theorem all_mk {P : Program} {w : World} {K : PySem.W.Frag} {mg : Str → Option Value} {fa : Addr} (hfa : mg "law" = some (.ref fa)) (T : ∀ base, Tx P w K mg base (fun _ => 0)) (hT : ∀ b b', (T b).f_law = (T b').f_law ∧ (T b).d_law = (T b').d_law) (hl : ∀ ns : List Int, ns.length ≤ 63 → ∃ h', m_law [.fz (ns.map .int)] [] = .ok (.bl true) h') : ∃ fd : FuncData, (∀ (s : Shared) (v : Value), BindsTo s fd ⟨[v], []⟩ [("_law_script", v)]) ∧ ∀ base : Heap, K.In base → base.Ns mainGlobals mg → FnOk P w K mg base (L2.CX P w) 9 fa fd ["_law_script"] (spLaw K) := by
  have e : ∀ b, fa = (T b).f_law := fun b => by
    have := hfa.symm.trans (T b).g_law
    cases this
    rfl
  let b0 : Heap := default
  refine ⟨(T b0).d_law, fun s v => ?_, fun base _ _ => ?_⟩
  · obtain ⟨oc, od, kV, doc, pm, an, cdv, ct, osl, e, lk, hcd⟩ := (T b0).F_law.ex
    rw [e]
    exact .of_eq rfl
  · have h := law_end (c := C.mk K fun _ => 0) ((T base).ok_law) hl
    rw [(hT b0 base).2, e base]
    exact h
end MP
open PySem PySem.W PyProof.Rows
set_option maxHeartbeats 0 in
theorem PySem.Challenge.cw_greatframes_k02_runs_told_holds : PySem.Challenge.rw_greatframes_k02_runs_told.Holds := by
  w_on; o_law; k_head; (case hw => w_witness2)
  k_fill
  refine MP.walkM (l := PySem.Challenge.rw_greatframes_k02_runs_told) (k := 9) rfl rfl ⟨rfl, by decide, by decide⟩ (fun w h Y => PySem.W.kIn_of Y) ?F
  case F =>
    intro w mg fa h KX G hmg
    refine' MP.all_mk hmg (fun base => MP.tx_mk _ w base (fun _ => 0) KX G ?z_bool ?z_int ?z_isinstance ?z_len ?z_list ?z_max ?z_min ?z_range ?z_sorted ?z_tuple ?x_LOT ?x_MANY ?y_MANY ?x_MOST_ORDER ?x_MOST_SIZE ?a_is_whole ?l_is_whole ?c_is_whole ?k_is_whole ?a_is_from ?l_is_from ?c_is_from ?k_is_from ?a_is_size ?l_is_size ?c_is_size ?k_is_size ?a_is_order ?l_is_order ?c_is_order ?k_is_order ?a_is_frame ?l_is_frame ?c_is_frame ?k_is_frame ?a_look_at_size ?l_look_at_size ?c_look_at_size ?k_look_at_size ?a_look_at_order ?l_look_at_order ?c_look_at_order ?k_look_at_order ?a_is_run ?l_is_run ?c_is_run ?k_is_run ?a_look_at_run ?l_look_at_run ?c_look_at_run ?k_look_at_run ?a_frames_of ?l_frames_of ?c_frames_of ?k_frames_of ?a_halves ?l_halves ?c_halves ?k_halves ?a_run_with ?l_run_with ?c_run_with ?k_run_with ?a_fellow ?l_fellow ?c_fellow ?k_fellow ?a_runs ?l_runs ?c_runs ?k_runs ?a_law_pool ?l_law_pool ?c_law_pool ?k_law_pool ?a_law_draw ?l_law_draw ?c_law_draw ?k_law_draw ?a_law_right ?l_law_right ?c_law_right ?k_law_right ?a_law ?l_law ?c_law ?k_law) (fun _ _ => ⟨rfl, rfl⟩) MP.law_all
    (case z_bool => k_is)
    (case z_int => k_is)
    (case z_isinstance => k_is)
    (case z_len => k_is)
    (case z_list => k_is)
    (case z_max => k_is)
    (case z_min => k_is)
    (case z_range => k_is)
    (case z_sorted => k_is)
    (case z_tuple => k_is)
    (case x_LOT => k_is)
    (case x_MANY => k_is)
    (case y_MANY => k_is)
    (case x_MOST_ORDER => k_is)
    (case x_MOST_SIZE => k_is)
    (case a_is_whole => k_is)
    (case l_is_whole => k_is)
    (case c_is_whole => k_is)
    (case k_is_whole => k_is)
    (case a_is_from => k_is)
    (case l_is_from => k_is)
    (case c_is_from => k_is)
    (case k_is_from => k_is)
    (case a_is_size => k_is)
    (case l_is_size => k_is)
    (case c_is_size => k_is)
    (case k_is_size => k_is)
    (case a_is_order => k_is)
    (case l_is_order => k_is)
    (case c_is_order => k_is)
    (case k_is_order => k_is)
    (case a_is_frame => k_is)
    (case l_is_frame => k_is)
    (case c_is_frame => k_is)
    (case k_is_frame => k_is)
    (case a_look_at_size => k_is)
    (case l_look_at_size => k_is)
    (case c_look_at_size => k_is)
    (case k_look_at_size => k_is)
    (case a_look_at_order => k_is)
    (case l_look_at_order => k_is)
    (case c_look_at_order => k_is)
    (case k_look_at_order => k_is)
    (case a_is_run => k_is)
    (case l_is_run => k_is)
    (case c_is_run => k_is)
    (case k_is_run => k_is)
    (case a_look_at_run => k_is)
    (case l_look_at_run => k_is)
    (case c_look_at_run => k_is)
    (case k_look_at_run => k_is)
    (case a_frames_of => k_is)
    (case l_frames_of => k_is)
    (case c_frames_of => k_is)
    (case k_frames_of => k_is)
    (case a_halves => k_is)
    (case l_halves => k_is)
    (case c_halves => k_is)
    (case k_halves => k_is)
    (case a_run_with => k_is)
    (case l_run_with => k_is)
    (case c_run_with => k_is)
    (case k_run_with => k_is)
    (case a_fellow => k_is)
    (case l_fellow => k_is)
    (case c_fellow => k_is)
    (case k_fellow => k_is)
    (case a_runs => k_is)
    (case l_runs => k_is)
    (case c_runs => k_is)
    (case k_runs => k_is)
    (case a_law_pool => k_is)
    (case l_law_pool => k_is)
    (case c_law_pool => k_is)
    (case k_law_pool => k_is)
    (case a_law_draw => k_is)
    (case l_law_draw => k_is)
    (case c_law_draw => k_is)
    (case k_law_draw => k_is)
    (case a_law_right => k_is)
    (case l_law_right => k_is)
    (case c_law_right => k_is)
    (case k_law_right => k_is)
    (case a_law => k_is)
    (case l_law => k_is)
    (case c_law => k_is)
    (case k_law => k_is)

