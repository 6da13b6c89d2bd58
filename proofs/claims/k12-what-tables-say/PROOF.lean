import PyProof.Rows.All
import HandS.ForMost
import HandS.WordsExc
import HandS.Flow
import HandS.Conv
import HandS.Style
import HandS.TupAny
import HandS.IsInst
import HandS.SortInts
import HandS.TupLe
import HandS.Wide
import HandS.Codes
import HandS.SetBool
import HandS.TupSets
import HandS.Deep
import HandS.More
import HandS.Iter
import HandS.Small
import KE.DataMinMax
import KE.SortData
import HandS.NoneIn
import HandS.DictComp
import KE.KDictPairs
import HandS.Finally
import KE.KEqNest
import HandS.WordsDict
import PySem.Challenge.RW_greatframes_k12_what_tables_say
set_option Elab.async false
set_option linter.all false
set_option maxRecDepth 100000
set_option maxHeartbeats 4000000
/-! Mirror layer, part 1: values, heap, the relation to the abstract heap of HandS, the readings of mirror terms. -/
namespace MP
open PySem PySem.Spec PyProof.Rows L2

/-- mirror values: tuples and unchanging lists are trees; what changes is an index into the mirror heap -/
inductive MV where
  | non
  | bl (b : Bool)
  | int (i : Int)
  | str (x : Str)
  | tup (l : List MV)
  | lv (l : List MV)
  | dv (ks vs : List MV)
  | fz (l : List MV)
  | ref (n : Nat)
  deriving Inhabited
inductive MO where
  | lst (l : List MV)
  | dct (kvs : List (MV × MV))
  | fdc (kvs : List (MV × MV))
  | ins (c : Nat) (fs : List (Str × MV))
  deriving Inhabited
abbrev MH := List MO
structure MX where
  c : Nat
  fs : List (Str × MV)
abbrev Lo := List (Option MV)
inductive R (α : Type) where
  | ok (a : α) (h : MH)
  | ex (e : MX) (h : MH)
  | bad
inductive SR where
  | nx (σ : Lo) (h : MH)
  | rt (v : MV) (h : MH)
  | bk (σ : Lo) (h : MH)
  | ct (σ : Lo) (h : MH)
  | ex (e : MX) (σ : Lo) (h : MH)
  | bad
abbrev EM := Lo → MH → R MV
abbrev TM := Lo → MH → R Bool
abbrev AM := Lo → MH → R (List MV)
abbrev SM := Lo → MH → SR

/-- what the mirror speaks of: the written part, where the classes stand -/
structure C where
  K : PySem.W.Frag
  ca : Nat → Addr

/-- dicts' keys -/
def mkey : MV → Option Key
  | .int i => some (.inl i)
  | .str x => some (.inr x)
  | _ => none
def RepKs : List MV → List Key → Prop
  | [], l => l = []
  | k :: r, l => ∃ k' r', l = k' :: r' ∧ mkey k = some k' ∧ RepKs r r'
/-- a dict, locked or not -/
def IsDV (o : HO) (l : List (Key × V)) : Prop := o = .dK l ∨ ∃ od, o = .frz od (.dK l)
def Vw (o o' : HO) : Prop := o = o' ∨ ∃ l, IsDV o l ∧ IsDV o' l
theorem Vw.rfl' {o : HO} : Vw o o := .inl rfl
theorem Vw.tup {xs : List V} {o : HO} (h : Vw (.tup xs) o) : o = .tup xs := by
  rcases h with h | ⟨l, h, _⟩
  · exact h.symm
  · rcases h with h | ⟨_, h⟩ <;> cases h
theorem Vw.lst {xs : List V} {o : HO} (h : Vw (.lst xs) o) : o = .lst xs := by
  rcases h with h | ⟨l, h, _⟩
  · exact h.symm
  · rcases h with h | ⟨_, h⟩ <;> cases h
theorem Vw.flst {xs : List V} {o : HO} {od : Obj} (h : Vw (.frz od (.lst xs)) o) : o = .frz od (.lst xs) := by
  rcases h with h | ⟨l, h, _⟩
  · exact h.symm
  · rcases h with h | ⟨_, h⟩ <;> cases h
theorem IsDV.inj {o : HO} {l l' : List (Key × V)} (h : IsDV o l) (h' : IsDV o l') : l = l' := by
  rcases h with rfl | ⟨_, rfl⟩ <;> rcases h' with h' | ⟨_, h'⟩ <;> cases h' <;> rfl
theorem Vw.dv {l : List (Key × V)} {o o' : HO} (h : Vw o o') (d : IsDV o l) : IsDV o' l := by
  rcases h with rfl | ⟨l', a, b⟩
  · exact d
  · rw [d.inj a]; exact b
section rep
variable (K : PySem.W.Frag) (ι β : List Addr) (H : Hp)
/-- a constant tuple of the written part -/
def KT (K : PySem.W.Frag) (a : Addr) (xs : List V) : Prop :=
  ∃ (o : Obj) (its : Array Value) (n : Nat), K.lookup a = some o ∧ o.cls = .type "tuple" ∧ o.data = .seq its n ∧ its.size ≤ sizeLine ∧ Vals xs its.toList
/-- a constant list of the written part -/
def KL (K : PySem.W.Frag) (a : Addr) (xs : List V) : Prop :=
  ∃ (o : Obj) (its : Array Value) (n : Nat), K.lookup a = some o ∧ o.cls = .type "list" ∧ o.dict = none ∧ o.data = .seq its n ∧ its.size ≤ sizeLine ∧ Vals xs its.toList
mutual
def RepV : MV → V → Prop
  | .non, v => v = .non
  | .bl b, v => v = .bl b
  | .int i, v => v = .int i
  | .str x, v => v = .str x
  | .tup l, v => ∃ a vs, v = .ref a ∧ (H a = some (.tup vs) ∧ a ∉ ι ∧ a ∉ β ∨ KT K a vs) ∧ RepVs l vs
  | .lv l, v => ∃ a vs, v = .ref a ∧ (H a = some (.lst vs) ∧ a ∉ ι ∧ a ∉ β) ∧ RepVs l vs
  | .dv ks ws, v => ∃ (a : Addr) (l : List (Key × V)), v = .ref a ∧ ((∃ o, H a = some o ∧ IsDV o l) ∧ a ∉ ι ∧ a ∉ β) ∧ RepKs ks (l.map (·.1)) ∧ RepVs ws (l.map (·.2))
  | .fz l, v => ∃ a vs, v = .ref a ∧ ((∃ o, H a = some (.frz o (.lst vs))) ∧ a ∉ ι ∧ a ∉ β ∨ KL K a vs) ∧ RepVs l vs
  | .ref n, v => ∃ a, v = .ref a ∧ ι[n]? = some a
def RepVs : List MV → List V → Prop
  | [], vs => vs = []
  | m :: l, vs => ∃ v r, vs = v :: r ∧ RepV m v ∧ RepVs l r
end
end rep

/-- the heap goes on: what was mapped stays mapped; what is tracked and not mapped stays as it is; newly mapped things are new -/
structure Fr (ι : List Addr) (H : Hp) (ι' : List Addr) (H' : Hp) : Prop where
  pre : ∃ t, ι' = ι ++ t
  keep : ∀ a o, H a = some o → a ∉ ι → ∃ o', H' a = some o' ∧ Vw o o'
  news : ∀ a, a ∈ ι' → a ∉ ι → H a = none
  frz : ∀ a o u, H a = some (.frz o u) → H' a = some (.frz o u)
theorem Vw.trans {a b d : HO} (h : Vw a b) (g : Vw b d) : Vw a d := by
  rcases h with rfl | ⟨l, h1, h2⟩
  · exact g
  · exact .inr ⟨l, h1, g.dv h2⟩
theorem Fr.refl {ι : List Addr} {H : Hp} : Fr ι H ι H := ⟨⟨[], by simp⟩, fun _ o h _ => ⟨o, h, .rfl'⟩, fun a h n => absurd h n, fun _ _ _ h => h⟩
theorem Fr.sub {ι ι' : List Addr} {H H' : Hp} (f : Fr ι H ι' H') {a : Addr} (h : a ∈ ι) : a ∈ ι' := by
  obtain ⟨t, rfl⟩ := f.pre
  exact List.mem_append_left _ h
theorem Fr.out {ι ι' : List Addr} {H H' : Hp} (f : Fr ι H ι' H') {a : Addr} {o : HO} (h : H a = some o) (n : a ∉ ι) : a ∉ ι' := fun z => by
  have := f.news a z n
  rw [h] at this; cases this
theorem Fr.trans {ι ι1 ι2 : List Addr} {H H1 H2 : Hp} (f : Fr ι H ι1 H1) (g : Fr ι1 H1 ι2 H2) : Fr ι H ι2 H2 := by
  refine ⟨?_, fun a o h n => ?_, fun a h n => ?_, fun a o u h => g.frz a o u (f.frz a o u h)⟩
  · obtain ⟨t, rfl⟩ := f.pre
    obtain ⟨u, rfl⟩ := g.pre
    exact ⟨t ++ u, by simp⟩
  · obtain ⟨o1, e1, w1⟩ := f.keep a o h n
    obtain ⟨o2, e2, w2⟩ := g.keep a o1 e1 (f.out h n)
    exact ⟨o2, e2, w1.trans w2⟩
  · by_cases z : a ∈ ι1
    · exact f.news a z n
    · have e := g.news a h z
      cases q : H a with
      | none => rfl
      | some o =>
        obtain ⟨o1, e1, _⟩ := f.keep a o q n
        rw [e1] at e; cases e
theorem Fr.get {ι ι' : List Addr} {H H' : Hp} (f : Fr ι H ι' H') {n : Nat} {a : Addr} (h : ι[n]? = some a) : ι'[n]? = some a := by
  obtain ⟨t, rfl⟩ := f.pre
  rw [List.getElem?_append_left]
  · exact h
  · exact (List.getElem?_eq_some_iff.mp h).1

/-- values go from one state to another: what may be read stays, what is mapped stays mapped -/
structure Mov (ι β : List Addr) (H : Hp) (ι' β' : List Addr) (H' : Hp) : Prop where
  out : ∀ a o, H a = some o → a ∉ ι → a ∉ β → (∃ o', H' a = some o' ∧ Vw o o') ∧ a ∉ ι' ∧ a ∉ β'
  get : ∀ (n : Nat) a, ι[n]? = some a → ι'[n]? = some a
theorem Fr.mov {ι ι' β : List Addr} {H H' : Hp} (f : Fr ι H ι' H') : Mov ι β H ι' β H' :=
  ⟨fun a o h n nb => ⟨f.keep a o h n, f.out h n, nb⟩, fun _ _ h => f.get h⟩
mutual
theorem RepV.move {K : PySem.W.Frag} {ι β ι' β' : List Addr} {H H' : Hp} (f : Mov ι β H ι' β' H') : ∀ {m : MV} {v : V}, RepV K ι β H m v → RepV K ι' β' H' m v
  | .non, _, h => by unfold RepV at h ⊢; exact h
  | .bl _, _, h => by unfold RepV at h ⊢; exact h
  | .int _, _, h => by unfold RepV at h ⊢; exact h
  | .str _, _, h => by unfold RepV at h ⊢; exact h
  | .tup l, _, h => by
    unfold RepV at h ⊢
    obtain ⟨a, vs, e, q, r⟩ := h
    refine ⟨a, vs, e, ?_, RepVs.move f r⟩
    rcases q with ⟨q, n, nb⟩ | q
    · obtain ⟨⟨o, e, w⟩, z⟩ := f.out _ _ q n nb
      exact .inl ⟨by rw [e, w.tup], z⟩
    · exact .inr q
  | .lv l, _, h => by
    unfold RepV at h ⊢
    obtain ⟨a, vs, e, ⟨q, n, nb⟩, r⟩ := h
    obtain ⟨⟨o, e', w⟩, z⟩ := f.out _ _ q n nb
    exact ⟨a, vs, e, ⟨by rw [e', w.lst], z⟩, RepVs.move f r⟩
  | .dv ks ws, _, h => by
    unfold RepV at h ⊢
    obtain ⟨a, l, e, ⟨⟨u, q, iv⟩, n, nb⟩, k, r⟩ := h
    obtain ⟨⟨o, e', w⟩, z⟩ := f.out _ _ q n nb
    exact ⟨a, l, e, ⟨⟨o, e', w.dv iv⟩, z⟩, k, RepVs.move f r⟩
  | .fz l, _, h => by
    unfold RepV at h ⊢
    obtain ⟨a, vs, e, q, r⟩ := h
    refine ⟨a, vs, e, ?_, RepVs.move f r⟩
    rcases q with ⟨⟨o, q⟩, n, nb⟩ | q
    · obtain ⟨⟨o', e', w⟩, z⟩ := f.out _ _ q n nb
      exact .inl ⟨⟨o, by rw [e', w.flst]⟩, z⟩
    · exact .inr q
  | .ref n, _, h => by
    unfold RepV at h ⊢
    obtain ⟨a, e, q⟩ := h
    exact ⟨a, e, f.get _ _ q⟩
theorem RepVs.move {K : PySem.W.Frag} {ι β ι' β' : List Addr} {H H' : Hp} (f : Mov ι β H ι' β' H') : ∀ {l : List MV} {vs : List V}, RepVs K ι β H l vs → RepVs K ι' β' H' l vs
  | [], _, h => by unfold RepVs at h ⊢; exact h
  | m :: l, _, h => by
    unfold RepVs at h ⊢
    obtain ⟨v, r, e, q, t⟩ := h
    exact ⟨v, r, e, RepV.move f q, RepVs.move f t⟩
end
theorem RepV.mono {K : PySem.W.Frag} {ι ι' β : List Addr} {H H' : Hp} (f : Fr ι H ι' H') {m : MV} {v : V} (h : RepV K ι β H m v) : RepV K ι' β H' m v := h.move f.mov
theorem RepVs.mono {K : PySem.W.Frag} {ι ι' β : List Addr} {H H' : Hp} (f : Fr ι H ι' H') {l : List MV} {vs : List V} (h : RepVs K ι β H l vs) : RepVs K ι' β H' l vs := h.move f.mov
theorem RepV.fz_iff {K : PySem.W.Frag} {ι β : List Addr} {H : Hp} {l : List MV} {v : V} (h : RepV K ι β H (.fz l) v) : ∃ a vs, v = .ref a ∧ SqL K H a vs ∧ RepVs K ι β H l vs := by
  unfold RepV at h
  obtain ⟨a, vs, e, q, r⟩ := h
  refine ⟨a, vs, e, ?_, r⟩
  rcases q with ⟨⟨o, q⟩, _⟩ | q
  · exact .inl (.inr ⟨o, q⟩)
  · exact .inr q
section
variable {K : PySem.W.Frag} {ι ι' β : List Addr} {H H' : Hp}
theorem RepVs.nil : RepVs K ι β H [] [] := by unfold RepVs; rfl
theorem RepVs.cons {m : MV} {v : V} {l : List MV} {vs : List V} (a : RepV K ι β H m v) (b : RepVs K ι β H l vs) : RepVs K ι β H (m :: l) (v :: vs) := by
  unfold RepVs; exact ⟨v, vs, rfl, a, b⟩
theorem RepVs.nil_iff {vs : List V} (h : RepVs K ι β H [] vs) : vs = [] := by unfold RepVs at h; exact h
theorem RepVs.cons_iff {m : MV} {l : List MV} {vs : List V} (h : RepVs K ι β H (m :: l) vs) : ∃ v r, vs = v :: r ∧ RepV K ι β H m v ∧ RepVs K ι β H l r := by unfold RepVs at h; exact h
theorem RepVs.length : ∀ {l : List MV} {vs : List V}, RepVs K ι β H l vs → l.length = vs.length
  | [], _, h => by rw [h.nil_iff]; rfl
  | _ :: _, _, h => by
    obtain ⟨v, r, rfl, _, t⟩ := h.cons_iff
    simp [RepVs.length t]
theorem RepVs.get : ∀ {l : List MV} {vs : List V} {i : Nat} {m : MV}, RepVs K ι β H l vs → l[i]? = some m → ∃ v, vs[i]? = some v ∧ RepV K ι β H m v
  | [], _, _, _, _, e => by simp at e
  | _ :: _, _, 0, _, h, e => by
    obtain ⟨v, r, rfl, q, _⟩ := h.cons_iff
    simp at e; subst e
    exact ⟨v, rfl, q⟩
  | _ :: _, _, i + 1, _, h, e => by
    obtain ⟨v, r, rfl, _, t⟩ := h.cons_iff
    obtain ⟨u, e2, q⟩ := RepVs.get (i := i) t (by simpa using e)
    exact ⟨u, by simpa using e2, q⟩
theorem RepVs.append : ∀ {l l' : List MV} {vs vs' : List V}, RepVs K ι β H l vs → RepVs K ι β H l' vs' → RepVs K ι β H (l ++ l') (vs ++ vs')
  | [], _, _, _, h, h' => by rw [h.nil_iff]; exact h'
  | _ :: _, _, _, _, h, h' => by
    obtain ⟨v, r, rfl, q, t⟩ := h.cons_iff
    exact .cons q (RepVs.append t h')
theorem RepVs.take : ∀ {l : List MV} {vs : List V} (n : Nat), RepVs K ι β H l vs → RepVs K ι β H (l.take n) (vs.take n)
  | _, _, 0, _ => by simp; exact .nil
  | [], _, _ + 1, h => by rw [h.nil_iff]; simp; exact .nil
  | _ :: _, _, n + 1, h => by
    obtain ⟨v, r, rfl, q, t⟩ := h.cons_iff
    simp only [List.take_succ_cons]
    exact .cons q (RepVs.take n t)
theorem RepVs.drop : ∀ {l : List MV} {vs : List V} (n : Nat), RepVs K ι β H l vs → RepVs K ι β H (l.drop n) (vs.drop n)
  | _, _, 0, h => by simpa using h
  | [], _, _ + 1, h => by rw [h.nil_iff]; simp; exact .nil
  | _ :: _, _, n + 1, h => by
    obtain ⟨v, r, rfl, q, t⟩ := h.cons_iff
    simp only [List.drop_succ_cons]
    exact RepVs.drop n t
theorem RepVs.set {m : MV} {v : V} (q : RepV K ι β H m v) : ∀ {l : List MV} {vs : List V} (i : Nat), RepVs K ι β H l vs → RepVs K ι β H (l.set i m) (vs.set i v)
  | [], _, _, h => by rw [h.nil_iff]; simp; exact .nil
  | _ :: _, _, 0, h => by
    obtain ⟨u, r, rfl, _, t⟩ := h.cons_iff
    exact .cons q t
  | _ :: _, _, i + 1, h => by
    obtain ⟨u, r, rfl, p, t⟩ := h.cons_iff
    exact .cons p (RepVs.set q i t)
theorem RepVs.reverse : ∀ {l : List MV} {vs : List V}, RepVs K ι β H l vs → RepVs K ι β H l.reverse vs.reverse
  | [], _, h => by rw [h.nil_iff]; simp; exact .nil
  | _ :: _, _, h => by
    obtain ⟨u, r, rfl, p, t⟩ := h.cons_iff
    simp only [List.reverse_cons]
    exact (RepVs.reverse t).append (.cons p .nil)
theorem RepVs.ints : ∀ {ns : List Int}, RepVs K ι β H (ns.map MV.int) (ns.map V.int)
  | [] => .nil
  | _ :: _ => .cons (by unfold RepV; rfl) RepVs.ints
theorem RepVs.of_ints : ∀ {ns : List Int} {vs : List V}, RepVs K ι β H (ns.map MV.int) vs → vs = ns.map V.int
  | [], _, h => h.nil_iff
  | n :: ns, _, h => by
    obtain ⟨v, r, rfl, p, t⟩ := RepVs.cons_iff (m := .int n) h
    unfold RepV at p
    subst p
    rw [RepVs.of_ints t]; rfl
theorem RepVs.replicate {m : MV} {v : V} (q : RepV K ι β H m v) : ∀ n : Nat, RepVs K ι β H (List.replicate n m) (List.replicate n v)
  | 0 => .nil
  | n + 1 => .cons q (RepVs.replicate q n)
theorem RepVs.flat {l : List MV} {vs : List V} (h : RepVs K ι β H l vs) : ∀ n : Nat, RepVs K ι β H (List.replicate n l).flatten (List.replicate n vs).flatten
  | 0 => .nil
  | n + 1 => h.append (RepVs.flat h n)
end

/-! ### dicts' keys -/
def RepKV (K : PySem.W.Frag) (ι β : List Addr) (H : Hp) : List (MV × MV) → List (Key × V) → Prop
  | [], l => l = []
  | (k, m) :: r, l => ∃ k' v r', l = (k', v) :: r' ∧ mkey k = some k' ∧ RepV K ι β H m v ∧ RepKV K ι β H r r'
theorem RepKV.move {K : PySem.W.Frag} {ι β ι' β' : List Addr} {H H' : Hp} (f : Mov ι β H ι' β' H') : ∀ {l : List (MV × MV)} {r : List (Key × V)}, RepKV K ι β H l r → RepKV K ι' β' H' l r
  | [], _, h => h
  | _ :: _, _, h => by
    obtain ⟨k', v, r', e, a, b, c⟩ := h
    exact ⟨k', v, r', e, a, b.move f, RepKV.move f c⟩
def RepFs (K : PySem.W.Frag) (ι β : List Addr) (H : Hp) : List (Str × MV) → List (Str × V) → Prop
  | [], l => l = []
  | (k, m) :: r, l => ∃ v r', l = (k, v) :: r' ∧ RepV K ι β H m v ∧ RepFs K ι β H r r'
theorem RepFs.move {K : PySem.W.Frag} {ι β ι' β' : List Addr} {H H' : Hp} (f : Mov ι β H ι' β' H') : ∀ {l : List (Str × MV)} {r : List (Str × V)}, RepFs K ι β H l r → RepFs K ι' β' H' l r
  | [], _, h => h
  | _ :: _, _, h => by
    obtain ⟨v, r', e, b, c⟩ := h
    exact ⟨v, r', e, b.move f, RepFs.move f c⟩

/-! ### the mirror heap -/
def RepO (c : C) (ι β : List Addr) (H : Hp) (a : Addr) : MO → Prop
  | .lst l => ∃ vs, H a = some (.lst vs) ∧ RepVs c.K ι β H l vs
  | .dct kvs => ∃ l, H a = some (.dK l) ∧ RepKV c.K ι β H kvs l
  | .fdc kvs => ∃ o l, H a = some (.frz o (.dK l)) ∧ RepKV c.K ι β H kvs l
  | .ins n fs => ∃ dx l, H a = some (.ins (c.ca n) dx l) ∧ RepFs c.K ι β H fs l
theorem RepO.some {c : C} {ι β : List Addr} {H : Hp} {a : Addr} {o : MO} (h : RepO c ι β H a o) : ∃ u, H a = some u := by
  cases o with
  | lst l => obtain ⟨vs, e, _⟩ := h; exact ⟨_, e⟩
  | dct l => obtain ⟨vs, e, _⟩ := h; exact ⟨_, e⟩
  | fdc l => obtain ⟨o, vs, e, _⟩ := h; exact ⟨_, e⟩
  | ins n fs => obtain ⟨dx, l, e, _⟩ := h; exact ⟨_, e⟩
theorem RepO.move {c : C} {ι β ι' β' : List Addr} {H H' : Hp} {a : Addr} {o : MO} (f : Mov ι β H ι' β' H') (e : H' a = H a) (h : RepO c ι β H a o) : RepO c ι' β' H' a o := by
  cases o with
  | lst l => obtain ⟨vs, q, r⟩ := h; exact ⟨vs, e.trans q, r.move f⟩
  | dct l => obtain ⟨vs, q, r⟩ := h; exact ⟨vs, e.trans q, r.move f⟩
  | fdc l => obtain ⟨o, vs, q, r⟩ := h; exact ⟨o, vs, e.trans q, r.move f⟩
  | ins n fs => obtain ⟨dx, l, q, r⟩ := h; exact ⟨dx, l, e.trans q, r.move f⟩
theorem RepO.mono {c : C} {ι ι' β : List Addr} {H H' : Hp} {a : Addr} {o : MO} (f : Fr ι H ι' H') (e : H' a = H a) (h : RepO c ι β H a o) : RepO c ι' β H' a o := h.move f.mov e
structure Rel (c : C) (ι β : List Addr) (H : Hp) (mh : MH) : Prop where
  len : mh.length = ι.length
  nd : ι.Nodup
  ban : ∀ a, a ∈ β → ∃ o, H a = some o ∧ a ∉ ι ∧ ∀ od u, o ≠ .frz od u
  obj : ∀ (n : Nat) (o : MO), mh[n]? = some o → ∃ a, ι[n]? = some a ∧ RepO c ι β H a o
section
variable {c : C} {ι ι' β : List Addr} {H H' : Hp} {mh : MH} {a p : Addr} {o : HO}
theorem Rel.at (r : Rel c ι β H mh) {n : Nat} (h : ι[n]? = some a) : ∃ o, mh[n]? = some o ∧ RepO c ι β H a o := by
  have hn : n < mh.length := by rw [r.len]; exact (List.getElem?_eq_some_iff.mp h).1
  obtain ⟨b, e, q⟩ := r.obj n mh[n] (List.getElem?_eq_getElem hn)
  rw [h] at e; cases e
  exact ⟨_, List.getElem?_eq_getElem hn, q⟩
theorem Rel.tracked (r : Rel c ι β H mh) (h : a ∈ ι) : ∃ u, H a = some u := by
  obtain ⟨n, hn, e⟩ := List.getElem_of_mem h
  obtain ⟨o, _, q⟩ := r.at (n := n) (a := a) (by rw [List.getElem?_eq_getElem hn, e])
  exact q.some
theorem Rel.fresh (r : Rel c ι β H mh) (h : H p = none) : p ∉ ι := fun z => by
  obtain ⟨u, e⟩ := r.tracked z
  rw [h] at e; cases e
/-- a new thing that isn't mapped -/
theorem Fr.lay (r : Rel c ι β H mh) (h : H p = none) : Fr ι H ι (upd H p o) :=
  ⟨⟨[], by simp⟩, fun a u e _ => ⟨u, by rw [upd_ne (ne_of_none e h)]; exact e, .rfl'⟩, fun a z n => absurd z n, fun a _ u e => by rw [upd_ne (ne_of_none e h)]; exact e⟩
theorem Rel.lay (r : Rel c ι β H mh) (h : H p = none) : Rel c ι β (upd H p o) mh := by
  refine ⟨r.len, r.nd, fun b hb => ?_, fun n u e => ?_⟩
  · obtain ⟨u, e, n, nf⟩ := r.ban b hb
    exact ⟨u, by rw [upd_ne (ne_of_none e h)]; exact e, n, nf⟩
  obtain ⟨a, e1, q⟩ := r.obj n u e
  obtain ⟨w, hw⟩ := q.some
  exact ⟨a, e1, q.mono (Fr.lay r h) (upd_ne (ne_of_none hw h))⟩
/-- a new thing, mapped -/
theorem Fr.new (r : Rel c ι β H mh) (h : H p = none) : Fr ι H (ι ++ [p]) (upd H p o) :=
  ⟨⟨[p], rfl⟩, fun a u e _ => ⟨u, by rw [upd_ne (ne_of_none e h)]; exact e, .rfl'⟩, fun a z n => by
    rcases List.mem_append.mp z with z | z
    · exact absurd z n
    · have : a = p := by simpa using z
      rw [this]; exact h, fun a _ u e => by rw [upd_ne (ne_of_none e h)]; exact e⟩
theorem Rel.new {mo : MO} (r : Rel c ι β H mh) (h : H p = none) (q : RepO c (ι ++ [p]) β (upd H p o) p mo) : Rel c (ι ++ [p]) β (upd H p o) (mh ++ [mo]) := by
  refine ⟨by simp [r.len], ?_, fun b hb => ?_, fun n u e => ?_⟩
  · refine List.nodup_append.mpr ⟨r.nd, by simp, fun a ha b hb => ?_⟩
    have : b = p := by simpa using hb
    subst this
    rintro rfl
    exact r.fresh h ha
  · obtain ⟨u, e, n, nf⟩ := r.ban b hb
    refine ⟨u, by rw [upd_ne (ne_of_none e h)]; exact e, fun z => ?_, nf⟩
    rcases List.mem_append.mp z with z | z
    · exact n z
    · have : b = p := by simpa using z
      rw [this, h] at e; cases e
  · by_cases hn : n < mh.length
    · rw [List.getElem?_append_left hn] at e
      obtain ⟨a, e1, q1⟩ := r.obj n u e
      obtain ⟨w, hw⟩ := q1.some
      refine ⟨a, ?_, q1.mono (Fr.new r h) (upd_ne (ne_of_none hw h))⟩
      rw [List.getElem?_append_left (by rw [← r.len]; exact hn)]
      exact e1
    · rw [List.getElem?_append_right (by omega)] at e
      have hz : n - mh.length = 0 := by
        have := (List.getElem?_eq_some_iff.mp e).1
        simp at this
        exact this
      rw [hz] at e
      simp at e
      subst e
      refine ⟨p, ?_, q⟩
      rw [List.getElem?_append_right (by rw [← r.len]; omega), ← r.len, hz]
      rfl
/-- a mapped thing changed -/
theorem Fr.put {n : Nat} (h : ι[n]? = some a) (nf : ∀ o u, H a ≠ some (.frz o u)) : Fr ι H ι (upd H a o) :=
  ⟨⟨[], by simp⟩, fun b u e nb => ⟨u, by
    rw [upd_ne]
    · exact e
    · rintro rfl
      exact nb (List.mem_of_getElem? h), .rfl'⟩, fun a z n => absurd z n, fun b _ u e => by
    rw [upd_ne]
    · exact e
    · rintro rfl
      exact nf _ _ e⟩
theorem Rel.put {n : Nat} {mo : MO} (r : Rel c ι β H mh) (h : ι[n]? = some a) (nf : ∀ o u, H a ≠ some (.frz o u)) (q : RepO c ι β (upd H a o) a mo) : Rel c ι β (upd H a o) (mh.set n mo) := by
  refine ⟨by simp [r.len], r.nd, fun b hb => ?_, fun m u e => ?_⟩
  · obtain ⟨u, e, n', nf'⟩ := r.ban b hb
    refine ⟨u, ?_, n', nf'⟩
    rw [upd_ne]
    · exact e
    · rintro rfl
      exact n' (List.mem_of_getElem? h)
  by_cases hm : m = n
  · subst hm
    rw [List.getElem?_set_self (by rw [r.len]; exact (List.getElem?_eq_some_iff.mp h).1)] at e
    cases e
    exact ⟨a, h, q⟩
  · rw [List.getElem?_set_ne (Ne.symm hm)] at e
    obtain ⟨b, e1, q1⟩ := r.obj m u e
    refine ⟨b, e1, q1.mono (Fr.put h nf) (upd_ne ?_)⟩
    rintro rfl
    obtain ⟨h1, e2⟩ := List.getElem?_eq_some_iff.mp e1
    obtain ⟨h2, e3⟩ := List.getElem?_eq_some_iff.mp h
    exact hm ((List.getElem_inj r.nd).mp (e2.trans e3.symm))
end

/-! ### a thing that is being built: banned -/
section
variable {c : C} {ι β : List Addr} {H : Hp} {mh : MH} {D : Addr} {o : HO}
theorem Mov.ban (h : H D = none) : Mov ι β H ι (D :: β) (upd H D o) :=
  ⟨fun a u e n nb => ⟨⟨u, by rw [upd_ne (ne_of_none e h)]; exact e, .rfl'⟩, n, fun z => by
    rcases List.mem_cons.mp z with z | z
    · exact ne_of_none e h z
    · exact nb z⟩, fun _ _ h => h⟩
theorem Rel.ban' (r : Rel c ι β H mh) (h : H D = none) (nf : ∀ od u, o ≠ .frz od u) : Rel c ι (D :: β) (upd H D o) mh := by
  refine ⟨r.len, r.nd, fun b hb => ?_, fun n u e => ?_⟩
  · rcases List.mem_cons.mp hb with rfl | hb
    · exact ⟨o, upd_same, r.fresh h, nf⟩
    · obtain ⟨u, e, n, nf'⟩ := r.ban b hb
      exact ⟨u, by rw [upd_ne (ne_of_none e h)]; exact e, n, nf'⟩
  · obtain ⟨a, e1, q⟩ := r.obj n u e
    obtain ⟨w, hw⟩ := q.some
    exact ⟨a, e1, q.move (Mov.ban h) (upd_ne (ne_of_none hw h))⟩
theorem Mov.turn : Mov ι (D :: β) H ι (D :: β) (upd H D o) :=
  ⟨fun a u e n nb => ⟨⟨u, by rw [upd_ne (fun z => nb (by rw [z]; exact List.mem_cons_self))]; exact e, .rfl'⟩, n, nb⟩, fun _ _ h => h⟩
theorem Rel.turn (r : Rel c ι (D :: β) H mh) (nf : ∀ od u, o ≠ .frz od u) : Rel c ι (D :: β) (upd H D o) mh := by
  obtain ⟨uD, eD, nD, fD⟩ := r.ban D List.mem_cons_self
  refine ⟨r.len, r.nd, fun b hb => ?_, fun n u e => ?_⟩
  · by_cases z : b = D
    · subst z
      exact ⟨o, upd_same, nD, nf⟩
    · obtain ⟨u, e, n, nf'⟩ := r.ban b hb
      exact ⟨u, by rw [upd_ne z]; exact e, n, nf'⟩
  · obtain ⟨a, e1, q⟩ := r.obj n u e
    exact ⟨a, e1, q.move Mov.turn (upd_ne (fun z => nD (by rw [← z]; exact List.mem_of_getElem? e1)))⟩
theorem Mov.free : Mov ι (D :: β) H ι β H :=
  ⟨fun a u e n nb => ⟨⟨u, e, .rfl'⟩, n, fun z => nb (List.mem_cons_of_mem _ z)⟩, fun _ _ h => h⟩
theorem Rel.free (r : Rel c ι (D :: β) H mh) : Rel c ι β H mh :=
  ⟨r.len, r.nd, fun b hb => r.ban b (List.mem_cons_of_mem _ hb), fun n u e => by
    obtain ⟨a, e1, q⟩ := r.obj n u e
    exact ⟨a, e1, q.move Mov.free rfl⟩⟩
/-- from ahead of the ban to behind it: the frame -/
theorem Fr.unban {ι' : List Addr} {H' : Hp} (r : Rel c ι β H mh) (h : H D = none) (nf : ∀ od u, o ≠ .frz od u) (f : Fr ι (upd H D o) ι' H') (f2 : ∀ a, a ∈ ι' → a ≠ D) : Fr ι H ι' H' :=
  ⟨f.pre, fun a u e n => f.keep a u (by rw [upd_ne (ne_of_none e h)]; exact e) n, fun a ha n => by
    have := f.news a ha n
    rw [upd_ne (f2 a ha)] at this
    exact this, fun a od u e => f.frz a od u (by rw [upd_ne (ne_of_none e h)]; exact e)⟩
end

/-- the locals -/
structure RepL (K : PySem.W.Frag) (ι β : List Addr) (H : Hp) (σm : Lo) (σ : L2.St) : Prop where
  len : σm.length = σ.length
  val : ∀ (i : Nat) (m : MV), σm[i]? = some (some m) → ∃ v, σ[i]? = some (some v) ∧ RepV K ι β H m v
section
variable {K : PySem.W.Frag} {ι ι' β : List Addr} {H H' : Hp} {σm : Lo} {σ : L2.St}
theorem RepL.move {β' : List Addr} (f : Mov ι β H ι' β' H') (r : RepL K ι β H σm σ) : RepL K ι' β' H' σm σ := ⟨r.len, fun i m e => by
  obtain ⟨v, e1, q⟩ := r.val i m e
  exact ⟨v, e1, q.move f⟩⟩
theorem RepL.mono (f : Fr ι H ι' H') (r : RepL K ι β H σm σ) : RepL K ι' β H' σm σ := ⟨r.len, fun i m e => by
  obtain ⟨v, e1, q⟩ := r.val i m e
  exact ⟨v, e1, q.mono f⟩⟩
theorem RepL.set {i : Nat} {m : MV} {v : V} (r : RepL K ι β H σm σ) (q : RepV K ι β H m v) : RepL K ι β H (σm.set i (some m)) (σ.set i (some v)) := by
  refine ⟨by simp [r.len], fun j m' e => ?_⟩
  by_cases hj : j = i
  · subst hj
    have hlt : j < σm.length := by
      have := (List.getElem?_eq_some_iff.mp e).1
      simpa using this
    rw [List.getElem?_set_self hlt] at e
    cases e
    exact ⟨v, List.getElem?_set_self (by rw [← r.len]; exact hlt), q⟩
  · rw [List.getElem?_set_ne (Ne.symm hj)] at e
    obtain ⟨v', e1, q1⟩ := r.val j m' e
    exact ⟨v', by rw [List.getElem?_set_ne (Ne.symm hj)]; exact e1, q1⟩
theorem RepL.clear (vs : List Nat) (r : RepL K ι β H σm σ) : RepL K ι β H (vs.foldr (fun i l => l.set i none) σm) (wipe σ vs) := by
  induction vs with
  | nil => exact r
  | cons i vs ih =>
    refine ⟨by simp [ih.len, wipe, wipe_length], fun j m e => ?_⟩
    by_cases hj : j = i
    · subst hj
      simp only [List.foldr_cons] at e
      rw [List.getElem?_set] at e
      simp at e
    · simp only [List.foldr_cons] at e
      rw [List.getElem?_set_ne (Ne.symm hj)] at e
      obtain ⟨v, e1, q⟩ := ih.val j m e
      exact ⟨v, by show (wipe σ (i :: vs))[j]? = _; unfold wipe; rw [List.getElem?_set_ne (Ne.symm hj)]; exact e1, q⟩
end
end MP

/-! Mirror layer, part 2: readings of mirror terms; expressions, tests, statements. -/
namespace MP
open PySem PySem.Spec PyProof.Rows L2
abbrev St := L2.St

/-- an own exception that flies: its class, its own dict -/
def RepX (c : C) (ι β : List Addr) (H : Hp) (e : MX) (cls : Value) (d : Option Addr) : Prop :=
  cls = .ref (c.ca e.c) ∧ match e.fs with
    | [] => d = none
    | fs => ∃ dd gs, d = some dd ∧ H dd = some (.xd gs) ∧ dd ∉ ι ∧ RepFs c.K ι β H fs gs
section post
variable {α γ δ : Type}
/-- what is wanted of a mirror result -/
def Post (c : C) (ι β : List Addr) (H : Hp) (Rp : List Addr → List Addr → Hp → α → δ → Prop) (Q : δ → Hp → Prop) (W : Value → Option Addr → Hp → Prop) : R α → Prop
  | .ok a h => ∀ ι' H' b, Fr ι H ι' H' → Rel c ι' β H' h → Rp ι' β H' a b → Q b H'
  | .ex e h => ∀ ι' H' cls d, Fr ι H ι' H' → Rel c ι' β H' h → RepX c ι' β H' e cls d → W cls d H'
  | .bad => False
def bindR (x : R α) (k : α → MH → R γ) : R γ :=
  match x with
  | .ok a h => k a h
  | .ex e h => .ex e h
  | .bad => .bad
def tR (c : C) (W : WX) (Rp : List Addr → List Addr → Hp → α → δ → Prop) (r : Lo → MH → R α) : St → Hp → (δ → Hp → Prop) → Prop := fun σ H Q =>
  ∃ ι β mh σm, Rel c ι β H mh ∧ RepL c.K ι β H σm σ ∧ Post c ι β H Rp Q (fun cls d H' => W cls d σ H') (r σm mh)
theorem tR.mono {c : C} {W : WX} {Rp : List Addr → List Addr → Hp → α → δ → Prop} {r : Lo → MH → R α} {σ : St} {H : Hp} {Q Q' : δ → Hp → Prop} (h : tR c W Rp r σ H Q) (hq : ∀ b H', Q b H' → Q' b H') : tR c W Rp r σ H Q' := by
  obtain ⟨ι, β, mh, σm, rel, rl, p⟩ := h
  refine ⟨ι, β, mh, σm, rel, rl, ?_⟩
  cases e : r σm mh with
  | ok a h => rw [e] at p; exact fun ι' H' b f r q => hq _ _ (p ι' H' b f r q)
  | ex x h => rw [e] at p; exact p
  | bad => rw [e] at p; exact p
theorem Post.fr {c : C} {ι ι1 β : List Addr} {H H1 : Hp} {Rp : List Addr → List Addr → Hp → α → δ → Prop} {Q : δ → Hp → Prop} {W : Value → Option Addr → Hp → Prop} {x : R α} (f : Fr ι H ι1 H1) (h : Post c ι β H Rp Q W x) : Post c ι1 β H1 Rp Q W x := by
  cases x with
  | ok a h' => exact fun ι' H' b g r q => h ι' H' b (f.trans g) r q
  | ex e h' => exact fun ι' H' b d g r q => h ι' H' b d (f.trans g) r q
  | bad => exact h
/-- one part is run, the rest is told -/
theorem run1 {c : C} {W : WX} {Rp : List Addr → List Addr → Hp → α → δ → Prop} {γ' : Type} {Rp' : List Addr → List Addr → Hp → γ → γ' → Prop} {ι β : List Addr} {H : Hp} {mh : MH} {σm : Lo} {σ : St} {ra : Lo → MH → R α} {k : α → MH → R γ} {Q : γ' → Hp → Prop}
    (rel : Rel c ι β H mh) (rl : RepL c.K ι β H σm σ) (h : Post c ι β H Rp' Q (fun cls d H' => W cls d σ H') (bindR (ra σm mh) k)) :
    tR c W Rp ra σ H (fun b H1 => ∃ ι1 mh1 a, Fr ι H ι1 H1 ∧ Rel c ι1 β H1 mh1 ∧ RepL c.K ι1 β H1 σm σ ∧ Rp ι1 β H1 a b ∧ Post c ι1 β H1 Rp' Q (fun cls d H' => W cls d σ H') (k a mh1)) := by
  refine ⟨ι, β, mh, σm, rel, rl, ?_⟩
  cases e : ra σm mh with
  | ok a h' =>
    rw [e] at h
    exact fun ι' H' b f r q => ⟨ι', h', a, f, r, rl.mono f, q, Post.fr f h⟩
  | ex x h' => rw [e] at h; exact h
  | bad => rw [e] at h; exact h
end post

abbrev RV (c : C) : List Addr → List Addr → Hp → MV → V → Prop := fun ι β H => RepV c.K ι β H
abbrev RVs (c : C) : List Addr → List Addr → Hp → List MV → List V → Prop := fun ι β H => RepVs c.K ι β H
abbrev RB : List Addr → List Addr → Hp → Bool → Bool → Prop := fun _ _ _ a b => a = b
def tE (c : C) (W : WX) (r : EM) : TE := tR c W (RV c) r
def tT (c : C) (W : WX) (r : TM) : TT := tR c W RB r
def tA (c : C) (W : WX) (r : AM) : TA := tR c W (RVs c) r

/-! ### statements -/
def PostS (c : C) (ι β : List Addr) (H : Hp) (D : Ends) (W : WX) : SR → Prop
  | .nx σ1 h => ∀ ι' H' σ', Fr ι H ι' H' → Rel c ι' β H' h → RepL c.K ι' β H' σ1 σ' → D.nx σ' H'
  | .rt v h => ∀ ι' H' u, Fr ι H ι' H' → Rel c ι' β H' h → RepV c.K ι' β H' v u → D.rt u H'
  | .bk σ1 h => ∀ ι' H' σ', Fr ι H ι' H' → Rel c ι' β H' h → RepL c.K ι' β H' σ1 σ' → D.bk σ' H'
  | .ct σ1 h => ∀ ι' H' σ', Fr ι H ι' H' → Rel c ι' β H' h → RepL c.K ι' β H' σ1 σ' → D.ct σ' H'
  | .ex e σ1 h => ∀ ι' H' cls d σ', Fr ι H ι' H' → Rel c ι' β H' h → RepL c.K ι' β H' σ1 σ' → RepX c ι' β H' e cls d → W cls d σ' H'
  | .bad => False
def tS (c : C) (W : WX) (r : SM) : TS := fun D σ H =>
  ∃ ι β mh σm, Rel c ι β H mh ∧ RepL c.K ι β H σm σ ∧ PostS c ι β H D W (r σm mh)
theorem PostS.fr {c : C} {ι ι1 β : List Addr} {H H1 : Hp} {D : Ends} {W : WX} {x : SR} (f : Fr ι H ι1 H1) (h : PostS c ι β H D W x) : PostS c ι1 β H1 D W x := by
  cases x with
  | nx σ h' => exact fun ι' H' b g r q => h ι' H' b (f.trans g) r q
  | rt σ h' => exact fun ι' H' b g r q => h ι' H' b (f.trans g) r q
  | bk σ h' => exact fun ι' H' b g r q => h ι' H' b (f.trans g) r q
  | ct σ h' => exact fun ι' H' b g r q => h ι' H' b (f.trans g) r q
  | ex e σ h' => exact fun ι' H' b d s g r q => h ι' H' b d s (f.trans g) r q
  | bad => exact h
def bindS {α : Type} (x : R α) (σ : Lo) (k : α → MH → SR) : SR :=
  match x with
  | .ok a h => k a h
  | .ex e h => .ex e σ h
  | .bad => .bad
/-- a part of a statement is run -/
theorem run1S {α δ : Type} {c : C} {W : WX} {Rp : List Addr → List Addr → Hp → α → δ → Prop} {ι β : List Addr} {H : Hp} {mh : MH} {σm : Lo} {σ : St} {ra : Lo → MH → R α} {k : α → MH → SR} {D : Ends}
    (rel : Rel c ι β H mh) (rl : RepL c.K ι β H σm σ) (h : PostS c ι β H D W (bindS (ra σm mh) σm k)) :
    tR c W Rp ra σ H (fun b H1 => ∃ ι1 mh1 a, Fr ι H ι1 H1 ∧ Rel c ι1 β H1 mh1 ∧ RepL c.K ι1 β H1 σm σ ∧ Rp ι1 β H1 a b ∧ PostS c ι1 β H1 D W (k a mh1)) := by
  refine ⟨ι, β, mh, σm, rel, rl, ?_⟩
  cases e : ra σm mh with
  | ok a h' =>
    rw [e] at h
    exact fun ι' H' b f r q => ⟨ι', h', a, f, r, rl.mono f, q, PostS.fr f h⟩
  | ex x h' =>
    rw [e] at h
    exact fun ι' H' cls d f r q => h ι' H' cls d σ f r (rl.mono f) q
  | bad => rw [e] at h; exact h

/-! ### a reading that asks more will do -/
section
variable {X : Cx}
theorem _root_.L2.PE.wk {e : Expr} {t t' : TE} (h : PE X e t) (w : ∀ σ H Q, t' σ H Q → t σ H Q) : PE X e t' := ⟨fun pins s σ H Q I q => h.run pins s σ H Q I (w σ H Q q)⟩
theorem _root_.L2.PT.wk {e : Expr} {t t' : TT} (h : PT X e t) (w : ∀ σ H Q, t' σ H Q → t σ H Q) : PT X e t' := ⟨fun pins s σ H Q I q => h.run pins s σ H Q I (w σ H Q q)⟩
theorem _root_.L2.PW.wk {e : Expr} {t t' : TT} (h : PW X e t) (w : ∀ σ H Q, t' σ H Q → t σ H Q) : PW X e t' := ⟨fun wh pins s σ H Q I q => h.run wh pins s σ H Q I (w σ H Q q)⟩
theorem _root_.L2.PA.wk {es : List Expr} {t t' : TA} (h : PA X es t) (w : ∀ σ H Q, t' σ H Q → t σ H Q) : PA X es t' := ⟨fun pos pins s σ H Q I q => h.run pos pins s σ H Q I (w σ H Q q)⟩
theorem _root_.L2.PS.wk {st : Stmt} {t t' : TS} (h : PS X st t) (w : ∀ D σ H, t' D σ H → t D σ H) : PS X st t' := ⟨fun pins s σ H D I q => h.run pins s σ H D I (w D σ H q)⟩
theorem _root_.L2.PSs.wk {st : List Stmt} {t t' : TS} (h : PSs X st t) (w : ∀ D σ H, t' D σ H → t D σ H) : PSs X st t' := ⟨fun pins s σ H D I q => h.run pins s σ H D I (w D σ H q)⟩

/-! ### names, constants -/
@[simp] def mVar (i : Nat) : EM := fun σ h => match σ[i]? with
  | some (some m) => .ok m h
  | _ => .bad
@[simp] def mC (v : MV) : EM := fun _ h => .ok v h
variable {c : C} {W : WX}
theorem e_var (i : Nat) {x : Str} {pos : Pos} (h : PE X (.Name x pos) (tVar i)) : PE X (.Name x pos) (tE c W (mVar i)) := by
  refine h.wk fun σ H Q ⟨ι, β, mh, σm, rel, rl, p⟩ => ?_
  unfold mVar at p
  split at p
  · rename_i m e
    obtain ⟨v, e1, q⟩ := rl.val i m e
    exact ⟨v, e1, p ι H v .refl rel q⟩
  · exact p.elim
/-- a constant of any kind that stands by itself -/
theorem e_c {e : Expr} {m : MV} {v : V} (h : PE X e (tC v)) (r : ∀ ι β H, RepV c.K ι β H m v) : PE X e (tE c W (mC m)) := by
  refine h.wk fun σ H Q ⟨ι, β, mh, σm, rel, rl, p⟩ => ?_
  exact p ι H v .refl rel (r ι β H)
theorem rint {i : Int} : ∀ ι β H, RepV c.K ι β H (.int i) (.int i) := fun _ _ _ => by unfold RepV; rfl
theorem rbl {i : Bool} : ∀ ι β H, RepV c.K ι β H (.bl i) (.bl i) := fun _ _ _ => by unfold RepV; rfl
theorem rnon : ∀ ι β H, RepV c.K ι β H .non .non := fun _ _ _ => by unfold RepV; rfl
theorem rstr {i : Str} : ∀ ι β H, RepV c.K ι β H (.str i) (.str i) := fun _ _ _ => by unfold RepV; rfl
theorem rkt {l : List MV} {a : Addr} {vs : List V} (k : KT c.K a vs) (r : ∀ ι β H, RepVs c.K ι β H l vs) : ∀ ι β H, RepV c.K ι β H (.tup l) (.ref a) := fun ι β H => by
  unfold RepV; exact ⟨a, vs, rfl, .inr k, r ι β H⟩

/-! ### arguments -/
@[simp] def mNil : AM := fun _ h => .ok [] h
@[simp] def mCons (ra : EM) (rs : AM) : AM := fun σ h => bindR (ra σ h) fun a h1 => bindR (rs σ h1) fun as h2 => .ok (a :: as) h2
theorem a_nil : PA X [] (tA c W mNil) := pa_nil.wk fun σ H Q ⟨ι, β, mh, σm, rel, rl, p⟩ => p ι H [] .refl rel .nil
theorem a_cons' {e : Expr} {es : List Expr} {ra : EM} {rs : AM} {σ : St} {H : Hp} {Q : List V → Hp → Prop} (h : tA c W (mCons ra rs) σ H Q) : tCons (tE c W ra) (tA c W rs) σ H Q := by
  obtain ⟨ι, β, mh, σm, rel, rl, p⟩ := h
  refine (run1 rel rl p).mono fun x H1 ⟨ι1, mh1, a, f1, rel1, rl1, ra1, p1⟩ => ?_
  refine (run1 rel1 rl1 p1).mono fun xs H2 ⟨ι2, mh2, as, f2, rel2, rl2, ra2, p2⟩ => ?_
  exact p2 ι2 H2 (x :: xs) .refl rel2 (.cons (ra1.mono f2) ra2)
theorem a_cons {e : Expr} {es : List Expr} {ra : EM} {rs : AM} (ha : PE X e (tE c W ra)) (hs : PA X es (tA c W rs)) (he : starEach (e :: es) X.env = (false, eval e X.env) :: starEach es X.env := by rfl) : PA X (e :: es) (tA c W (mCons ra rs)) :=
  (pa_cons ha hs he).wk fun σ H Q h => a_cons' (e := e) (es := es) h

/-! ### operations by values -/
/-- a mirror operation on values keeps a reading by values -/
def P1 (c : C) (r : V → Hp → VK → Prop) (f : MV → MH → R MV) : Prop := ∀ ι β H mh a x Q W, Rel c ι β H mh → RepV c.K ι β H a x → Post c ι β H (RV c) Q W (f a mh) → r x H Q
def P2 (c : C) (r : R2) (f : MV → MV → MH → R MV) : Prop := ∀ ι β H mh a b x y Q W, Rel c ι β H mh → RepV c.K ι β H a x → RepV c.K ι β H b y → Post c ι β H (RV c) Q W (f a b mh) → r x y H Q
def PN (c : C) (r : List V → Hp → VK → Prop) (f : List MV → MH → R MV) : Prop := ∀ ι β H mh as xs Q W, Rel c ι β H mh → RepVs c.K ι β H as xs → Post c ι β H (RV c) Q W (f as mh) → r xs H Q
@[simp] def m1 (f : MV → MH → R MV) (ra : EM) : EM := fun σ h => bindR (ra σ h) f
@[simp] def m2 (f : MV → MV → MH → R MV) (ra rb : EM) : EM := fun σ h => bindR (ra σ h) fun a h1 => bindR (rb σ h1) fun b h2 => f a b h2
@[simp] def mN (f : List MV → MH → R MV) (rs : AM) : EM := fun σ h => bindR (rs σ h) f
theorem m1_of {r : V → Hp → VK → Prop} {f : MV → MH → R MV} {ra : EM} (hp : P1 c r f) {σ : St} {H : Hp} {Q : VK} (h : tE c W (m1 f ra) σ H Q) : tUn r (tE c W ra) σ H Q := by
  obtain ⟨ι, β, mh, σm, rel, rl, p⟩ := h
  exact (run1 rel rl p).mono fun x H1 ⟨ι1, mh1, a, f1, rel1, rl1, ra1, p1⟩ => hp _ _ _ _ _ _ _ _ rel1 ra1 p1
theorem m2_of {r : R2} {f : MV → MV → MH → R MV} {ra rb : EM} (hp : P2 c r f) {σ : St} {H : Hp} {Q : VK} (h : tE c W (m2 f ra rb) σ H Q) : tOp r (tE c W ra) (tE c W rb) σ H Q := by
  obtain ⟨ι, β, mh, σm, rel, rl, p⟩ := h
  refine (run1 rel rl p).mono fun x H1 ⟨ι1, mh1, a, f1, rel1, rl1, ra1, p1⟩ => ?_
  exact (run1 rel1 rl1 p1).mono fun y H2 ⟨ι2, mh2, b, f2, rel2, rl2, ra2, p2⟩ => hp _ _ _ _ _ _ _ _ _ _ rel2 (ra1.mono f2) ra2 p2
theorem mN_of {r : List V → Hp → VK → Prop} {f : List MV → MH → R MV} {rs : AM} (hp : PN c r f) {σ : St} {H : Hp} {Q : VK} (h : tE c W (mN f rs) σ H Q) : tA c W rs σ H fun xs H1 => r xs H1 Q := by
  obtain ⟨ι, β, mh, σm, rel, rl, p⟩ := h
  exact (run1 rel rl p).mono fun x H1 ⟨ι1, mh1, a, f1, rel1, rl1, ra1, p1⟩ => hp _ _ _ _ _ _ _ _ rel1 ra1 p1
variable {a b d : Expr} {ra rb rd : EM} {pos : Pos}
theorem e_op {op : Operator} {r : R2} {f : MV → MV → MH → R MV} (ho : OpR X (binaryOp op) r) (hp : P2 c r f) (ha : PE X a (tE c W ra)) (hb : PE X b (tE c W rb)) : PE X (.BinOp a op b pos) (tE c W (m2 f ra rb)) :=
  (pe_op ho ha hb).wk fun σ H Q h => m2_of hp h
theorem e_un {op : UnaryOp} {r : V → Hp → VK → Prop} {f : MV → MH → R MV} (ho : UnR X (unaryOp op) r) (hp : P1 c r f) (ha : PE X a (tE c W ra)) : PE X (.UnaryOp op a pos) (tE c W (m1 f ra)) :=
  (pe_un ho ha).wk fun σ H Q h => m1_of hp h
theorem e_cmp {op : CmpOp} {r : R2} {f : MV → MV → MH → R MV} (ho : OpR X (compareOp op) r) (hp : P2 c r f) (ha : PE X a (tE c W ra)) (hb : PE X b (tE c W rb)) (hm : behindInMarks op b = false) : PE X (.Compare a [op] [b] pos) (tE c W (m2 f ra rb)) :=
  (pe_cmpR ho ha hb hm).wk fun σ H Q h => m2_of hp h
theorem e_ix {r : R2} {f : MV → MV → MH → R MV} (ho : IxR X r) (hp : P2 c r f) (ha : PE X a (tE c W ra)) (hb : PE X b (tE c W rb)) (hs : PlainIx b) : PE X (.Subscript a b pos) (tE c W (m2 f ra rb)) :=
  (pe_ix ho ha hb hs).wk fun σ H Q h => m2_of hp h

/-! ### tests -/
/-- a value's truth, a bool -/
@[simp] def isB (v : MV) (h : MH) : R Bool := match v with
  | .bl b => .ok b h
  | _ => .bad
@[simp] def mB (r : EM) : TM := fun σ h => bindR (r σ h) isB
theorem mB_of {r : EM} {σ : St} {H : Hp} {Q : Bool → Hp → Prop} (h : tT c W (mB r) σ H Q) : tTest (tE c W r) σ H Q := by
  obtain ⟨ι, β, mh, σm, rel, rl, p⟩ := h
  refine (run1 rel rl p).mono fun x H1 ⟨ι1, mh1, a, f1, rel1, rl1, ra1, p1⟩ => ?_
  cases a with
  | bl b =>
    unfold RepV at ra1
    exact ⟨b, ra1, p1 ι1 H1 b .refl rel1 rfl⟩
  | _ => exact p1.elim
theorem t_val (ha : PE X a (tE c W ra)) (he : ∀ whole, isTrue a X.env whole = (do let v ← whole; standAt a.pos; holding [v] (truthy v)) := by intro _; rfl) : PT X a (tT c W (mB ra)) :=
  PT.wk (t := tB (tE c W ra)) (pt_val ha he) fun σ H Q h => mB_of h
theorem t_cmp {op : CmpOp} {r : R2} {f : MV → MV → MH → R MV} (ho : OpR X (compareOp op) r) (hp : P2 c r f) (ha : PE X a (tE c W ra)) (hb : PE X b (tE c W rb)) (hm : behindInMarks op b = false) : PT X (.Compare a [op] [b] pos) (tT c W (mB (m2 f ra rb))) :=
  (pt_cmpR ho ha hb hm).wk fun σ H Q h => m2_of hp (mB_of h)
/-- a op b op' d -/
@[simp] def m3c (f g : MV → MV → MH → R MV) (ra rb rd : EM) : EM := fun σ h => bindR (ra σ h) fun a h1 => bindR (rb σ h1) fun b h2 => bindR (f a b h2) fun z h3 => match z with
  | .bl true => bindR (rd σ h3) fun e h4 => g b e h4
  | .bl false => .ok (.bl false) h3
  | _ => .bad
theorem m3c_of {r r' : R2} {f g : MV → MV → MH → R MV} (hp : P2 c r f) (hp' : P2 c r' g) {σ : St} {H : Hp} {Q : VK} (h : tE c W (m3c f g ra rb rd) σ H Q) : tChain r r' (tE c W ra) (tE c W rb) (tE c W rd) σ H Q := by
  obtain ⟨ι, β, mh, σm, rel, rl, p⟩ := h
  refine (run1 rel rl p).mono fun x H1 ⟨ι1, mh1, a, f1, rel1, rl1, ra1, p1⟩ => ?_
  refine (run1 rel1 rl1 p1).mono fun y H2 ⟨ι2, mh2, b, f2, rel2, rl2, ra2, p2⟩ => ?_
  refine hp ι2 β H2 mh2 a b x y _ (fun cls dd H' => W cls dd σ H') rel2 (ra1.mono f2) ra2 ?_
  cases e : f a b mh2 with
  | bad => rw [e] at p2; exact p2
  | ex u h3 => rw [e] at p2; exact p2
  | ok z h3 =>
    rw [e] at p2
    intro ι3 H3 u f3 rel3 rz
    cases z with
    | bl k =>
      unfold RepV at rz
      refine ⟨k, rz, ?_⟩
      cases k with
      | true =>
        rw [if_pos rfl]
        refine (run1 rel3 (rl2.mono f3) (Post.fr f3 p2)).mono fun w H4 ⟨ι4, mh4, e4, f4, rel4, rl4, ra4, p4⟩ => ?_
        exact hp' _ _ _ _ _ _ _ _ _ _ rel4 ((ra2.mono f3).mono f4) ra4 p4
      | false =>
        rw [if_neg Bool.false_ne_true]
        exact p2 ι3 H3 (.bl false) f3 rel3 (rbl _ _ _)
    | _ => exact p2.elim
theorem e_chain {op op' : CmpOp} {r r' : R2} {f g : MV → MV → MH → R MV} (ho : OpR X (compareOp op) r) (hp : P2 c r f) (ho' : OpR X (compareOp op') r') (hp' : P2 c r' g) (ha : PE X a (tE c W ra)) (hb : PE X b (tE c W rb)) (hd : PE X d (tE c W rd))
    (hm : lastMarks [op, op'] [b, d] = false := by with_unfolding_all rfl) : PE X (.Compare a [op, op'] [b, d] pos) (tE c W (m3c f g ra rb rd)) :=
  (pe_chain ho ho' ha hb hd hm).wk fun σ H Q h => m3c_of hp hp' h
theorem t_chain {op op' : CmpOp} {r r' : R2} {f g : MV → MV → MH → R MV} (ho : OpR X (compareOp op) r) (hp : P2 c r f) (ho' : OpR X (compareOp op') r') (hp' : P2 c r' g) (ha : PE X a (tE c W ra)) (hb : PE X b (tE c W rb)) (hd : PE X d (tE c W rd))
    (hm : lastMarks [op, op'] [b, d] = false := by with_unfolding_all rfl) : PT X (.Compare a [op, op'] [b, d] pos) (tT c W (mB (m3c f g ra rb rd))) :=
  (pt_chain ho ho' ha hb hd hm).wk fun σ H Q h => m3c_of hp hp' (mB_of h)

@[simp] def mAnd (ra rb : TM) : TM := fun σ h => bindR (ra σ h) fun k h1 => if k = true then rb σ h1 else .ok false h1
@[simp] def mOr (ra rb : TM) : TM := fun σ h => bindR (ra σ h) fun k h1 => if k = true then .ok true h1 else rb σ h1
@[simp] def mNot (ra : TM) : TM := fun σ h => bindR (ra σ h) fun k h1 => .ok (!k) h1
variable {ta tb : TM} {rest : List Expr}
theorem w_one1 (h : PT X a (tT c W ta)) : PW X (.BoolOp .And [a] pos) (tT c W ta) := pw_and1 h
theorem w_one2 (h : PT X a (tT c W ta)) : PW X (.BoolOp .Or [a] pos) (tT c W ta) := pw_or1 h
theorem w_and (ha : PT X a (tT c W ta)) (hb : PW X (.BoolOp .And (b :: rest) pos) (tT c W tb)) : PW X (.BoolOp .And (a :: b :: rest) pos) (tT c W (mAnd ta tb)) :=
  (pw_and ha hb).wk fun σ H Q ⟨ι, β, mh, σm, rel, rl, p⟩ => by
    refine (run1 rel rl p).mono fun x H1 ⟨ι1, mh1, k, f1, rel1, rl1, ra1, p1⟩ => ?_
    obtain rfl : k = x := ra1
    cases k with
    | true => rw [if_pos rfl] at p1 ⊢; exact ⟨ι1, _, mh1, σm, rel1, rl1, p1⟩
    | false => rw [if_neg Bool.false_ne_true] at p1 ⊢; exact p1 ι1 H1 false .refl rel1 rfl
theorem w_or (ha : PT X a (tT c W ta)) (hb : PW X (.BoolOp .Or (b :: rest) pos) (tT c W tb)) : PW X (.BoolOp .Or (a :: b :: rest) pos) (tT c W (mOr ta tb)) :=
  (pw_or ha hb).wk fun σ H Q ⟨ι, β, mh, σm, rel, rl, p⟩ => by
    refine (run1 rel rl p).mono fun x H1 ⟨ι1, mh1, k, f1, rel1, rl1, ra1, p1⟩ => ?_
    obtain rfl : k = x := ra1
    cases k with
    | false => rw [if_neg Bool.false_ne_true] at p1 ⊢; exact ⟨ι1, _, mh1, σm, rel1, rl1, p1⟩
    | true => rw [if_pos rfl] at p1 ⊢; exact p1 ι1 H1 true .refl rel1 rfl
theorem t_not (ha : PT X a (tT c W ta)) : PT X (.UnaryOp .Not a pos) (tT c W (mNot ta)) :=
  (pt_not ha).wk fun σ H Q ⟨ι, β, mh, σm, rel, rl, p⟩ => by
    refine (run1 rel rl p).mono fun x H1 ⟨ι1, mh1, k, f1, rel1, rl1, ra1, p1⟩ => ?_
    obtain rfl : k = x := ra1
    exact p1 ι1 H1 _ .refl rel1 rfl
/-- as values: all but the last are bools -/
@[simp] def mAndV (ra rb : EM) : EM := fun σ h => bindR (ra σ h) fun v h1 => match v with
  | .bl true => rb σ h1
  | .bl false => .ok (.bl false) h1
  | _ => .bad
@[simp] def mOrV (ra rb : EM) : EM := fun σ h => bindR (ra σ h) fun v h1 => match v with
  | .bl true => .ok (.bl true) h1
  | .bl false => rb σ h1
  | _ => .bad
@[simp] def mNotV (ra : EM) : EM := fun σ h => bindR (ra σ h) fun v h1 => match v with
  | .bl k => .ok (.bl (!k)) h1
  | _ => .bad
theorem e_one {op} (h : PE X a (tE c W ra)) : PE X (.BoolOp op [a] pos) (tE c W ra) := pe_one h
theorem e_and (ha : PE X a (tE c W ra)) (hb : PE X (.BoolOp .And (b :: rest) pos) (tE c W rb)) : PE X (.BoolOp .And (a :: b :: rest) pos) (tE c W (mAndV ra rb)) :=
  (pe_and ha hb).wk fun σ H Q ⟨ι, β, mh, σm, rel, rl, p⟩ => by
    refine (run1 rel rl p).mono fun x H1 ⟨ι1, mh1, v, f1, rel1, rl1, ra1, p1⟩ => ?_
    cases v with
    | bl k =>
      unfold RepV at ra1
      refine ⟨k, ra1, ?_⟩
      cases k with
      | true => rw [if_pos rfl]; exact ⟨ι1, _, mh1, σm, rel1, rl1, p1⟩
      | false => rw [if_neg Bool.false_ne_true]; exact p1 ι1 H1 _ .refl rel1 (rbl _ _ _)
    | _ => exact p1.elim
theorem e_or (ha : PE X a (tE c W ra)) (hb : PE X (.BoolOp .Or (b :: rest) pos) (tE c W rb)) : PE X (.BoolOp .Or (a :: b :: rest) pos) (tE c W (mOrV ra rb)) :=
  (pe_or ha hb).wk fun σ H Q ⟨ι, β, mh, σm, rel, rl, p⟩ => by
    refine (run1 rel rl p).mono fun x H1 ⟨ι1, mh1, v, f1, rel1, rl1, ra1, p1⟩ => ?_
    cases v with
    | bl k =>
      unfold RepV at ra1
      refine ⟨k, ra1, ?_⟩
      cases k with
      | false => rw [if_neg Bool.false_ne_true]; exact ⟨ι1, _, mh1, σm, rel1, rl1, p1⟩
      | true => rw [if_pos rfl]; exact p1 ι1 H1 _ .refl rel1 (rbl _ _ _)
    | _ => exact p1.elim
theorem e_not (ha : PE X a (tE c W ra)) : PE X (.UnaryOp .Not a pos) (tE c W (mNotV ra)) :=
  (pe_not ha).wk fun σ H Q ⟨ι, β, mh, σm, rel, rl, p⟩ => by
    refine (run1 rel rl p).mono fun x H1 ⟨ι1, mh1, v, f1, rel1, rl1, ra1, p1⟩ => ?_
    cases v with
    | bl k =>
      unfold RepV at ra1
      exact ⟨k, ra1, p1 ι1 H1 _ .refl rel1 (rbl _ _ _)⟩
    | _ => exact p1.elim
@[simp] def mIf (t : TM) (ra rb : EM) : EM := fun σ h => bindR (t σ h) fun k h1 => if k = true then ra σ h1 else rb σ h1
theorem e_if {q : Expr} (hq : PT X q (tT c W ta)) (ha : PE X a (tE c W ra)) (hb : PE X b (tE c W rb)) : PE X (.IfExp q a b pos) (tE c W (mIf ta ra rb)) :=
  (pe_ifExp hq ha hb).wk fun σ H Q ⟨ι, β, mh, σm, rel, rl, p⟩ => by
    refine (run1 rel rl p).mono fun x H1 ⟨ι1, mh1, k, f1, rel1, rl1, ra1, p1⟩ => ?_
    obtain rfl : k = x := ra1
    cases k with
    | true => rw [if_pos rfl] at p1 ⊢; exact ⟨ι1, _, mh1, σm, rel1, rl1, p1⟩
    | false => rw [if_neg Bool.false_ne_true] at p1 ⊢; exact ⟨ι1, _, mh1, σm, rel1, rl1, p1⟩
end

/-! ### displays -/
def SZ : Nat := 16777216
theorem sz_eq : sizeLine = SZ := by rw [sizeLine_eq]; rfl
section
variable {X : Cx} {c : C} {W : WX} {es : List Expr} {rs : AM} {pos : Pos}
@[simp] def mkTup (l : List MV) (h : MH) : R MV := if l.length ≤ SZ then .ok (.tup l) h else .bad
def mkLv (l : List MV) (h : MH) : R MV := if l.length ≤ SZ then .ok (.lv l) h else .bad
def mkLst (l : List MV) (h : MH) : R MV := if l.length ≤ SZ then .ok (.ref h.length) (h ++ [.lst l]) else .bad
theorem e_tup {x1} (h : PA X es (tA c W rs)) : PE X (.Tuple es x1 pos) (tE c W (mN mkTup rs)) := by
  refine (pe_tup h).wk fun σ H Q hh => ?_
  refine mN_of (r := fun xs H1 Q => xs.length ≤ sizeLine ∧ ∀ p, H1 p = none → Q (.ref p) (upd H1 p (.tup xs))) (fun ι β H mh as xs Q W rel r p => ?_) hh
  unfold mkTup at p
  split at p
  · rename_i hl
    refine ⟨by rw [← r.length, sz_eq]; exact hl, fun q hq => p ι (upd H q (.tup xs)) (.ref q) (Fr.lay rel hq) (rel.lay hq) ?_⟩
    unfold RepV
    refine ⟨q, xs, rfl, .inl ⟨upd_same, rel.fresh hq, fun z => ?_⟩, r.mono (Fr.lay rel hq)⟩
    obtain ⟨o, e, _⟩ := rel.ban q z
    rw [hq] at e; cases e
  · exact p.elim
theorem nban {ι β : List Addr} {H : Hp} {mh : MH} {q : Addr} (rel : Rel c ι β H mh) (hq : H q = none) : q ∉ β := fun z => by
  obtain ⟨o, e, _⟩ := rel.ban q z
  rw [hq] at e; cases e
theorem rep_lv {ι β : List Addr} {H : Hp} {mh : MH} {q : Addr} {as : List MV} {xs : List V} (rel : Rel c ι β H mh) (hq : H q = none) (r : RepVs c.K ι β H as xs) : RepV c.K ι β (upd H q (.lst xs)) (.lv as) (.ref q) := by
  unfold RepV
  exact ⟨q, xs, rfl, ⟨upd_same, rel.fresh hq, nban rel hq⟩, r.mono (Fr.lay rel hq)⟩
theorem rep_tup {ι β : List Addr} {H : Hp} {mh : MH} {q : Addr} {as : List MV} {xs : List V} (rel : Rel c ι β H mh) (hq : H q = none) (r : RepVs c.K ι β H as xs) : RepV c.K ι β (upd H q (.tup xs)) (.tup as) (.ref q) := by
  unfold RepV
  exact ⟨q, xs, rfl, .inl ⟨upd_same, rel.fresh hq, nban rel hq⟩, r.mono (Fr.lay rel hq)⟩
theorem rep_ref {ι β : List Addr} {H : Hp} {mh : MH} {q : Addr} {o : HO} (rel : Rel c ι β H mh) : RepV c.K (ι ++ [q]) β (upd H q o) (.ref mh.length) (.ref q) := by
  unfold RepV
  refine ⟨q, rfl, ?_⟩
  rw [rel.len, List.getElem?_append_right (Nat.le_refl _)]
  simp
theorem e_lv (h : PA X es (tA c W rs)) : PE X (.List es pos) (tE c W (mN mkLv rs)) := by
  refine (pe_lst h).wk fun σ H Q hh => ?_
  refine mN_of (r := fun xs H1 Q => xs.length ≤ sizeLine ∧ ∀ p, H1 p = none → Q (.ref p) (upd H1 p (.lst xs))) (fun ι β H mh as xs Q W rel r p => ?_) hh
  unfold mkLv at p
  split at p
  · rename_i hl
    exact ⟨by rw [← r.length, sz_eq]; exact hl, fun q hq => p ι (upd H q (.lst xs)) (.ref q) (Fr.lay rel hq) (rel.lay hq) (rep_lv rel hq r)⟩
  · exact p.elim
theorem e_lst (h : PA X es (tA c W rs)) : PE X (.List es pos) (tE c W (mN mkLst rs)) := by
  refine (pe_lst h).wk fun σ H Q hh => ?_
  refine mN_of (r := fun xs H1 Q => xs.length ≤ sizeLine ∧ ∀ p, H1 p = none → Q (.ref p) (upd H1 p (.lst xs))) (fun ι β H mh as xs Q W rel r p => ?_) hh
  unfold mkLst at p
  split at p
  · rename_i hl
    refine ⟨by rw [← r.length, sz_eq]; exact hl, fun q hq => p (ι ++ [q]) (upd H q (.lst xs)) (.ref q) (Fr.new rel hq) (rel.new hq ⟨xs, upd_same, r.mono (Fr.new rel hq)⟩) (rep_ref rel)⟩
  · exact p.elim
/-- {} -/
def mDict : EM := fun _ h => .ok (.ref h.length) (h ++ [.dct []])
theorem e_dict : PE X (.Dict [] [] pos) (tE c W mDict) :=
  pe_dnewK.wk fun σ H Q ⟨ι, β, mh, σm, rel, rl, p⟩ => fun q hq => p (ι ++ [q]) _ _ (Fr.new rel hq) (rel.new hq ⟨[], upd_same, rfl⟩) (rep_ref rel)
end

/-! ### statements -/
section
variable {X : Cx} {c : C} {W : WX} {st : Stmt} {rest : List Stmt} {e : Expr} {re : EM} {pos : Pos}
@[simp] def sNil : SM := fun σ h => .nx σ h
@[simp] def sSeq (a b : SM) : SM := fun σ h => match a σ h with
  | .nx σ1 h1 => b σ1 h1
  | x => x
theorem ss_nil : PSs X [] (tS c W sNil) := pss_nil.wk fun D σ H ⟨ι, β, mh, σm, rel, rl, p⟩ => p ι H σ .refl rel rl
theorem sSeq_of {r1 r2 : SM} {D : Ends} {σ : St} {H : Hp} (h : tS c W (sSeq r1 r2) D σ H) : tSeq (tS c W r1) (tS c W r2) D σ H := by
  obtain ⟨ι, β, mh, σm, rel, rl, p⟩ := h
  refine ⟨ι, β, mh, σm, rel, rl, ?_⟩
  unfold sSeq at p
  cases e : r1 σm mh with
  | nx σ1 h1 => rw [e] at p; exact fun ι' H' σ' f r rl' => ⟨ι', β, h1, σ1, r, rl', PostS.fr f p⟩
  | rt v h1 => rw [e] at p; exact p
  | bk v h1 => rw [e] at p; exact p
  | ct v h1 => rw [e] at p; exact p
  | ex x v h1 => rw [e] at p; exact p
  | bad => rw [e] at p; exact p
theorem ss_cons {r1 r2 : SM} (h1 : PS X st (tS c W r1)) (h2 : PSs X rest (tS c W r2)) : PSs X (st :: rest) (tS c W (sSeq r1 r2)) := (pss_cons h1 h2).wk fun D σ H h => sSeq_of h
theorem ss_one {r1 : SM} (h1 : PS X st (tS c W r1)) : PSs X [st] (tS c W r1) := pss_one h1
@[simp] def sPass : SM := fun σ h => .nx σ h
@[simp] def sBreak : SM := fun σ h => .bk σ h
@[simp] def sCont : SM := fun σ h => .ct σ h
theorem s_pass : PS X (.Pass pos) (tS c W sPass) := ps_pass.wk fun D σ H ⟨ι, β, mh, σm, rel, rl, p⟩ => p ι H σ .refl rel rl
theorem s_break : PS X (.Break pos) (tS c W sBreak) := ps_break.wk fun D σ H ⟨ι, β, mh, σm, rel, rl, p⟩ => p ι H σ .refl rel rl
theorem s_cont : PS X (.Continue pos) (tS c W sCont) := ps_continue.wk fun D σ H ⟨ι, β, mh, σm, rel, rl, p⟩ => p ι H σ .refl rel rl
@[simp] def sNever : SM := fun _ _ => .bad
theorem s_never : PS X st (tS c W sNever) := ps_never.wk fun D σ H ⟨ι, β, mh, σm, rel, rl, p⟩ => p
@[simp] def sExpr (r : EM) : SM := fun σ h => bindS (r σ h) σ fun _ h1 => .nx σ h1
theorem s_expr (he : PE X e (tE c W re)) (hs : swapsWith e none pos.line X.env = pure false := by rfl) : PS X (.Expr e pos) (tS c W (sExpr re)) :=
  (ps_expr he hs).wk fun D σ H ⟨ι, β, mh, σm, rel, rl, p⟩ =>
    (run1S rel rl p).mono fun x H1 ⟨ι1, mh1, a, f1, rel1, rl1, ra1, p1⟩ => p1 ι1 H1 σ .refl rel1 rl1
@[simp] def sRet (r : EM) : SM := fun σ h => bindS (r σ h) σ fun v h1 => .rt v h1
theorem s_ret (he : PE X e (tE c W re)) : PS X (.Return (some e) pos) (tS c W (sRet re)) :=
  (ps_ret he).wk fun D σ H ⟨ι, β, mh, σm, rel, rl, p⟩ =>
    (run1S rel rl p).mono fun x H1 ⟨ι1, mh1, a, f1, rel1, rl1, ra1, p1⟩ => p1 ι1 H1 x .refl rel1 ra1
@[simp] def sRetN : SM := fun _ h => .rt .non h
theorem s_retN : PS X (.Return none pos) (tS c W sRetN) := ps_retN.wk fun D σ H ⟨ι, β, mh, σm, rel, rl, p⟩ => p ι H .non .refl rel (rnon _ _ _)
@[simp] def sIf (t : TM) (a b : SM) : SM := fun σ h => bindS (t σ h) σ fun k h1 => if k = true then a σ h1 else b σ h1
theorem s_if {q : Expr} {ba bb : List Stmt} {t : TM} {r1 r2 : SM} (hq : PT X q (tT c W t)) (h1 : PSs X ba (tS c W r1)) (h2 : PSs X bb (tS c W r2)) : PS X (.If q ba bb pos) (tS c W (sIf t r1 r2)) :=
  (ps_if hq h1 h2).wk fun D σ H ⟨ι, β, mh, σm, rel, rl, p⟩ => by
    refine (run1S rel rl p).mono fun x H1 ⟨ι1, mh1, k, f1, rel1, rl1, ra1, p1⟩ => ?_
    obtain rfl : k = x := ra1
    cases k with
    | true => rw [if_pos rfl] at p1 ⊢; exact ⟨ι1, _, mh1, σm, rel1, rl1, p1⟩
    | false => rw [if_neg Bool.false_ne_true] at p1 ⊢; exact ⟨ι1, _, mh1, σm, rel1, rl1, p1⟩
/-- name = e -/
@[simp] def sSet (i : Nat) (r : EM) : SM := fun σ h => bindS (r σ h) σ fun v h1 => .nx (σ.set i (some v)) h1
theorem s_set {i : Nat} {x : Str} {pos' : Pos} (hN : X.N.Nodup) (hi : X.N[i]? = some x) (hx : Loc X.env.scope x) (he : PE X e (tE c W re)) (hs : swapsWith e (some (.Name x pos')) pos.line X.env = pure false := by rfl) (hf : X.fn x = true ∨ X.env.scope.names.lookup x = some .local := by first | exact .inl rfl | exact .inr rfl) :
    PS X (.Assign [.Name x pos'] e pos) (tS c W (sSet i re)) :=
  (ps_set hN hi hx he hs hf).wk fun D σ H ⟨ι, β, mh, σm, rel, rl, p⟩ =>
    (run1S rel rl p).mono fun v H1 ⟨ι1, mh1, a, f1, rel1, rl1, ra1, p1⟩ => p1 ι1 H1 _ .refl rel1 (rl1.set ra1)

/-! ### targets -/
abbrev GM := MV → Lo → MH → R Lo
def PostG (c : C) (ι β : List Addr) (H : Hp) (Q : St → Hp → Prop) : R Lo → Prop
  | .ok σ1 h => ∀ ι' H' σ', Fr ι H ι' H' → Rel c ι' β H' h → RepL c.K ι' β H' σ1 σ' → Q σ' H'
  | _ => False
def tG (c : C) (g : GM) : TG := fun v σ H Q => ∃ ι β mh σm m, Rel c ι β H mh ∧ RepL c.K ι β H σm σ ∧ RepV c.K ι β H m v ∧ PostG c ι β H Q (g m σm mh)
theorem _root_.L2.PG.wk {tg : Expr} {t t' : TG} (h : PG X tg t) (w : ∀ v σ H Q, t' v σ H Q → t v σ H Q) : PG X tg t' := ⟨fun pins s σ H v u Q I r q => h.run pins s σ H v u Q I r (w v σ H Q q)⟩
@[simp] def gmName (i : Nat) : GM := fun v σ h => .ok (σ.set i (some v)) h
theorem g_name {i : Nat} {x : Str} (hN : X.N.Nodup) (hi : X.N[i]? = some x) (hx : Loc X.env.scope x) (hf : X.fn x = true ∨ X.env.scope.names.lookup x = some .local := by first | exact .inl rfl | exact .inr rfl) : PG X (.Name x pos) (tG c (gmName i)) :=
  (pg_name hN hi hx hf).wk fun v σ H Q ⟨ι, β, mh, σm, m, rel, rl, rv, p⟩ => p ι H _ .refl rel (rl.set rv)
abbrev GMs := List MV → Lo → MH → R Lo
def tGs (c : C) (g : GMs) : TGs := fun vs σ H Q => ∃ ι β mh σm ms, Rel c ι β H mh ∧ RepL c.K ι β H σm σ ∧ RepVs c.K ι β H ms vs ∧ PostG c ι β H Q (g ms σm mh)
theorem _root_.L2.PGs.wk {tgs : List Expr} {t t' : TGs} (h : PGs X tgs t) (w : ∀ v σ H Q, t' v σ H Q → t v σ H Q) : PGs X tgs t' := ⟨fun pins s σ H v u Q I r q => h.run pins s σ H v u Q I r (w v σ H Q q)⟩
@[simp] def gmNil : GMs := fun vs σ h => match vs with
  | [] => .ok σ h
  | _ => .bad
@[simp] def gmCons (g : GM) (gs : GMs) : GMs := fun vs σ h => match vs with
  | v :: r => match g v σ h with
    | .ok σ1 h1 => gs r σ1 h1
    | _ => .bad
  | [] => .bad
theorem gs_nil : PGs X [] (tGs c gmNil) := pgs_nil.wk fun v σ H Q ⟨ι, β, mh, σm, ms, rel, rl, rv, p⟩ => by
  cases ms with
  | nil => exact ⟨rv.nil_iff, p ι H σ .refl rel rl⟩
  | cons a b => exact p.elim
theorem gs_cons {es : List Expr} {g : GM} {gs : GMs} (h1 : PG X e (tG c g)) (h2 : PGs X es (tGs c gs)) (hs : (assignEach (e :: es) X.env).map (·.2) = assign e X.env :: (assignEach es X.env).map (·.2) := by rfl) : PGs X (e :: es) (tGs c (gmCons g gs)) :=
  (pgs_cons h1 h2 hs).wk fun vs σ H Q ⟨ι, β, mh, σm, ms, rel, rl, rv, p⟩ => by
    cases ms with
    | nil => exact p.elim
    | cons m ms =>
      obtain ⟨v, r, rfl, rv1, rv2⟩ := rv.cons_iff
      refine ⟨v, r, rfl, ι, β, mh, σm, m, rel, rl, rv1, ?_⟩
      unfold gmCons at p
      cases e : g m σm mh with
      | ok σ1 h1 =>
        simp only [e] at p
        exact fun ι' H' σ' f rel' rl' => ⟨ι', β, h1, σ1, ms, rel', rl', rv2.mono f, by
          cases e2 : gs ms σ1 h1 with
          | ok σ2 h2 => rw [e2] at p; exact fun ι2 H2 σ2 f2 r2 l2 => p ι2 H2 σ2 (f.trans f2) r2 l2
          | ex a b => rw [e2] at p; exact p
          | bad => rw [e2] at p; exact p⟩
      | ex a b => simp only [e] at p; exact p.elim
      | bad => simp only [e] at p; exact p.elim
@[simp] def gmTup (gs : GMs) (n : Nat) : GM := fun v σ h => match v with
  | .tup l => if l.length = n then gs l σ h else .bad
  | _ => .bad
theorem RepV.tup_iff {K : PySem.W.Frag} {ι β : List Addr} {H : Hp} {l : List MV} {v : V} (h : RepV K ι β H (.tup l) v) : ∃ a vs, v = .ref a ∧ SqT K H a vs ∧ RepVs K ι β H l vs := by
  unfold RepV at h
  obtain ⟨a, vs, e, q, r⟩ := h
  refine ⟨a, vs, e, ?_, r⟩
  rcases q with ⟨q, _⟩ | q
  · exact .inl (.inl q)
  · exact .inr q
theorem g_tup {es : List Expr} {k n : Nat} {gs : GMs} (hc : X.calm = true) (hK : X.K = c.K) (h : PGs X es (tGs c gs)) (hn : (assignEach es X.env).length = n := by rfl) (hst : (assignEach es X.env).findIdx? (·.1) = none := by rfl) : PG X (.Tuple es k pos) (tG c (gmTup gs n)) :=
  (pg_tup hc h hn hst).wk fun v σ H Q ⟨ι, β, mh, σm, m, rel, rl, rv, p⟩ => by
    cases m with
    | tup l =>
      obtain ⟨a, vs, rfl, q, r⟩ := rv.tup_iff
      unfold gmTup at p
      simp only at p
      split at p
      · rename_i hl
        exact ⟨a, vs, rfl, by rw [hK]; exact q, by rw [← r.length]; exact hl, ι, β, mh, σm, l, rel, rl, r, p⟩
      · exact p.elim
    | _ => exact p.elim
@[simp] def sAsg (r : EM) (g : GM) : SM := fun σ h => bindS (r σ h) σ fun v h1 => match g v σ h1 with
  | .ok σ1 h2 => .nx σ1 h2
  | _ => .bad
theorem s_asg {tg : Expr} {g : GM} (he : PE X e (tE c W re)) (hg : PG X tg (tG c g)) (hs : swapsWithSole [tg] e pos.line X.env = pure false := by rfl) (hw : swappedStores [tg] e X.env = pure none := by rfl)
    (h1 : (assignEach [tg] X.env).map (·.2) = [assign tg X.env] := by rfl) : PS X (.Assign [tg] e pos) (tS c W (sAsg re g)) :=
  (ps_asg he hg hs hw h1).wk fun D σ H ⟨ι, β, mh, σm, rel, rl, p⟩ =>
    (run1S rel rl p).mono fun v H1 ⟨ι1, mh1, a, f1, rel1, rl1, ra1, p1⟩ => by
      refine ⟨ι1, β, mh1, σm, a, rel1, rl1, ra1, ?_⟩
      cases e : g a σm mh1 with
      | ok σ1 h1 => simp only [e] at p1; exact p1
      | ex a b => simp only [e] at p1; exact p1
      | bad => simp only [e] at p1; exact p1
end
end MP

/-! Mirror layer, part 3: what is left over is dropped (gc); defs and calls. -/
namespace MP
open PySem PySem.Spec PyProof.Rows L2

/-! ### equality of mirror values, by computation -/
mutual
def beqV : MV → MV → Bool
  | .non, .non => true
  | .bl a, .bl b => a == b
  | .int a, .int b => decide (a = b)
  | .str a, .str b => decide (a = b)
  | .tup a, .tup b => beqVs a b
  | .lv a, .lv b => beqVs a b
  | .dv a a', .dv b b' => beqVs a b && beqVs a' b'
  | .fz a, .fz b => beqVs a b
  | .ref a, .ref b => Nat.beq a b
  | _, _ => false
def beqVs : List MV → List MV → Bool
  | [], [] => true
  | a :: l, b :: r => beqV a b && beqVs l r
  | _, _ => false
end
mutual
theorem beqV_eq : ∀ {a b : MV}, beqV a b = true → a = b
  | .non, b, h => by cases b <;> simp_all [beqV]
  | .bl a, b, h => by cases b <;> simp_all [beqV]
  | .int a, b, h => by cases b <;> simp_all [beqV]
  | .str a, b, h => by cases b <;> simp_all [beqV]
  | .tup a, b, h => by cases b <;> simp_all [beqV]; exact beqVs_eq h
  | .lv a, b, h => by cases b <;> simp_all [beqV]; exact beqVs_eq h
  | .dv a a', b, h => by cases b <;> simp_all [beqV]; exact ⟨beqVs_eq h.1, beqVs_eq h.2⟩
  | .fz a, b, h => by cases b <;> simp_all [beqV]; exact beqVs_eq h
  | .ref a, b, h => by cases b <;> simp_all [beqV]
theorem beqVs_eq : ∀ {a b : List MV}, beqVs a b = true → a = b
  | [], b, h => by cases b <;> simp_all [beqVs]
  | x :: l, b, h => by
    cases b with
    | nil => simp [beqVs] at h
    | cons y r =>
      simp only [beqVs, Bool.and_eq_true] at h
      rw [beqV_eq h.1, beqVs_eq h.2]
end
mutual
@[simp] theorem beqV_self : ∀ a : MV, beqV a a = true
  | .non => rfl
  | .bl a => by simp [beqV]
  | .int a => by simp [beqV]
  | .str a => by simp [beqV]
  | .tup a => by simp [beqV, beqVs_self a]
  | .lv a => by simp [beqV, beqVs_self a]
  | .dv a b => by simp [beqV, beqVs_self a, beqVs_self b]
  | .fz a => by simp [beqV, beqVs_self a]
  | .ref a => by simp [beqV]
@[simp] theorem beqVs_self : ∀ a : List MV, beqVs a a = true
  | [] => rfl
  | x :: l => by simp [beqVs, beqV_self x, beqVs_self l]
end
def beqKV : List (MV × MV) → List (MV × MV) → Bool
  | [], [] => true
  | (a, b) :: l, (a', b') :: r => beqV a a' && (beqV b b' && beqKV l r)
  | _, _ => false
def beqFs : List (Str × MV) → List (Str × MV) → Bool
  | [], [] => true
  | (a, b) :: l, (a', b') :: r => decide (a = a') && (beqV b b' && beqFs l r)
  | _, _ => false
theorem beqKV_eq : ∀ {a b : List (MV × MV)}, beqKV a b = true → a = b
  | [], b, h => by cases b <;> simp_all [beqKV]
  | (x, y) :: l, b, h => by
    cases b with
    | nil => simp [beqKV] at h
    | cons z r =>
      obtain ⟨z1, z2⟩ := z
      simp only [beqKV, Bool.and_eq_true] at h
      rw [beqV_eq h.1, beqV_eq h.2.1, beqKV_eq h.2.2]
@[simp] theorem beqKV_self : ∀ a : List (MV × MV), beqKV a a = true
  | [] => rfl
  | (x, y) :: l => by simp [beqKV, beqKV_self l]
theorem beqFs_eq : ∀ {a b : List (Str × MV)}, beqFs a b = true → a = b
  | [], b, h => by cases b <;> simp_all [beqFs]
  | (x, y) :: l, b, h => by
    cases b with
    | nil => simp [beqFs] at h
    | cons z r =>
      obtain ⟨z1, z2⟩ := z
      simp only [beqFs, Bool.and_eq_true, decide_eq_true_eq] at h
      rw [h.1, beqV_eq h.2.1, beqFs_eq h.2.2]
@[simp] theorem beqFs_self : ∀ a : List (Str × MV), beqFs a a = true
  | [] => rfl
  | (x, y) :: l => by simp [beqFs, beqFs_self l]
def beqO : MO → MO → Bool
  | .lst a, .lst b => beqVs a b
  | .dct a, .dct b => beqKV a b
  | .fdc a, .fdc b => beqKV a b
  | .ins c a, .ins d b => Nat.beq c d && beqFs a b
  | _, _ => false
theorem beqO_eq : ∀ {a b : MO}, beqO a b = true → a = b
  | .lst a, b, h => by cases b <;> simp_all [beqO]; exact beqVs_eq h
  | .dct a, b, h => by cases b <;> simp_all [beqO]; exact beqKV_eq h
  | .fdc a, b, h => by cases b <;> simp_all [beqO]; exact beqKV_eq h
  | .ins n a, b, h => by
    cases b <;> simp_all [beqO]
    exact beqFs_eq h.2
@[simp] theorem beqO_self (a : MO) : beqO a a = true := by cases a <;> simp [beqO]
def beqH : MH → MH → Bool
  | [], [] => true
  | a :: l, b :: r => beqO a b && beqH l r
  | _, _ => false
theorem beqH_eq : ∀ {a b : MH}, beqH a b = true → a = b
  | [], b, h => by cases b <;> simp_all [beqH]
  | x :: l, b, h => by
    cases b with
    | nil => simp [beqH] at h
    | cons y r =>
      simp only [beqH, Bool.and_eq_true] at h
      rw [beqO_eq h.1, beqH_eq h.2]
@[simp] theorem beqH_self : ∀ a : MH, beqH a a = true
  | [] => rfl
  | x :: l => by simp [beqH, beqH_self l]

/-! ### what has no reference to new things -/
mutual
def clV (n : Nat) : MV → Bool
  | .tup l => clVs n l
  | .lv l => clVs n l
  | .dv _ ws => clVs n ws
  | .fz l => clVs n l
  | .ref m => decide (m < n)
  | _ => true
def clVs (n : Nat) : List MV → Bool
  | [] => true
  | a :: l => clV n a && clVs n l
end
def clKV (n : Nat) : List (MV × MV) → Bool
  | [] => true
  | (_, b) :: l => clV n b && clKV n l
def clFs (n : Nat) : List (Str × MV) → Bool
  | [] => true
  | (_, b) :: l => clV n b && clFs n l
def clO (n : Nat) : MO → Bool
  | .lst l => clVs n l
  | .dct l => clKV n l
  | .fdc l => clKV n l
  | .ins _ l => clFs n l
def clH (n : Nat) : MH → Bool
  | [] => true
  | a :: l => clO n a && clH n l
def clL (n : Nat) : Lo → Bool
  | [] => true
  | some a :: l => clV n a && clL n l
  | none :: l => clL n l

/-! the first n mapped things alone -/
section
variable {K : PySem.W.Frag} {ι ι2 β : List Addr} {H : Hp} {n : Nat}
theorem take_get {m : Nat} {a : Addr} (h : ι[m]? = some a) (hm : m < n) : (ι.take n)[m]? = some a := by
  rw [List.getElem?_take_of_lt hm]; exact h
theorem not_take {a : Addr} (h : a ∉ ι) : a ∉ ι.take n := fun z => h (List.mem_of_mem_take z)
/-- ι2 has the first n of ι, and of ι alone -/
structure Sk (n : Nat) (ι ι2 : List Addr) : Prop where
  sub : ∀ a, a ∈ ι2 → a ∈ ι
  get : ∀ (m : Nat) a, m < n → ι[m]? = some a → ι2[m]? = some a
theorem Sk.take' : Sk n ι (ι.take n) := ⟨fun a h => List.mem_of_mem_take h, fun m a hm h => take_get h hm⟩
theorem Sk.out (k : Sk n ι ι2) {a : Addr} (h : a ∉ ι) : a ∉ ι2 := fun z => h (k.sub a z)
mutual
theorem RepV.shrink (sk : Sk n ι ι2) : ∀ {m : MV} {v : V}, clV n m = true → RepV K ι β H m v → RepV K ι2 β H m v
  | .non, _, _, h => by unfold RepV at h ⊢; exact h
  | .bl _, _, _, h => by unfold RepV at h ⊢; exact h
  | .int _, _, _, h => by unfold RepV at h ⊢; exact h
  | .str _, _, _, h => by unfold RepV at h ⊢; exact h
  | .tup l, _, cl, h => by
    unfold RepV at h ⊢
    unfold clV at cl
    obtain ⟨a, vs, e, q, r⟩ := h
    refine ⟨a, vs, e, ?_, RepVs.shrink sk cl r⟩
    rcases q with ⟨q, x, y⟩ | q
    · exact .inl ⟨q, sk.out x, y⟩
    · exact .inr q
  | .lv l, _, cl, h => by
    unfold RepV at h ⊢
    unfold clV at cl
    obtain ⟨a, vs, e, ⟨q, x, y⟩, r⟩ := h
    exact ⟨a, vs, e, ⟨q, sk.out x, y⟩, RepVs.shrink sk cl r⟩
  | .dv ks ws, _, cl, h => by
    unfold RepV at h ⊢
    unfold clV at cl
    obtain ⟨a, l, e, ⟨q, x, y⟩, k, r⟩ := h
    exact ⟨a, l, e, ⟨q, sk.out x, y⟩, k, RepVs.shrink sk cl r⟩
  | .fz l, _, cl, h => by
    unfold RepV at h ⊢
    unfold clV at cl
    obtain ⟨a, vs, e, q, r⟩ := h
    refine ⟨a, vs, e, ?_, RepVs.shrink sk cl r⟩
    rcases q with ⟨q, x, y⟩ | q
    · exact .inl ⟨q, sk.out x, y⟩
    · exact .inr q
  | .ref m, _, cl, h => by
    unfold RepV at h ⊢
    unfold clV at cl
    obtain ⟨a, e, q⟩ := h
    exact ⟨a, e, sk.get _ _ (of_decide_eq_true cl) q⟩
theorem RepVs.shrink (sk : Sk n ι ι2) : ∀ {l : List MV} {vs : List V}, clVs n l = true → RepVs K ι β H l vs → RepVs K ι2 β H l vs
  | [], _, _, h => by unfold RepVs at h ⊢; exact h
  | m :: l, _, cl, h => by
    unfold clVs at cl
    rw [Bool.and_eq_true] at cl
    obtain ⟨v, r, e, q, t⟩ := h.cons_iff
    subst e
    exact .cons (RepV.shrink sk cl.1 q) (RepVs.shrink sk cl.2 t)
end
theorem RepKV.shrink (sk : Sk n ι ι2) : ∀ {l : List (MV × MV)} {r : List (Key × V)}, clKV n l = true → RepKV K ι β H l r → RepKV K ι2 β H l r
  | [], _, _, h => h
  | _ :: _, _, cl, h => by
    unfold clKV at cl
    rw [Bool.and_eq_true] at cl
    obtain ⟨k', v, r', e, a, b, c⟩ := h
    exact ⟨k', v, r', e, a, b.shrink sk cl.1, RepKV.shrink sk cl.2 c⟩
theorem RepFs.shrink (sk : Sk n ι ι2) : ∀ {l : List (Str × MV)} {r : List (Str × V)}, clFs n l = true → RepFs K ι β H l r → RepFs K ι2 β H l r
  | [], _, _, h => h
  | _ :: _, _, cl, h => by
    unfold clFs at cl
    rw [Bool.and_eq_true] at cl
    obtain ⟨v, r', e, b, c⟩ := h
    exact ⟨v, r', e, b.shrink sk cl.1, RepFs.shrink sk cl.2 c⟩
theorem RepO.shrink {c : C} {a : Addr} {o : MO} (sk : Sk n ι ι2) (cl : clO n o = true) (h : RepO c ι β H a o) : RepO c ι2 β H a o := by
  cases o with
  | lst l => obtain ⟨vs, q, r⟩ := h; exact ⟨vs, q, r.shrink sk cl⟩
  | dct l => obtain ⟨vs, q, r⟩ := h; exact ⟨vs, q, r.shrink sk cl⟩
  | fdc l => obtain ⟨o, vs, q, r⟩ := h; exact ⟨o, vs, q, r.shrink sk cl⟩
  | ins m fs => obtain ⟨dx, l, q, r⟩ := h; exact ⟨dx, l, q, r.shrink sk cl⟩
theorem clH_get : ∀ {h : MH} {m : Nat} {o : MO}, clH n h = true → h[m]? = some o → clO n o = true
  | [], _, _, _, e => by simp at e
  | _ :: _, 0, _, cl, e => by
    unfold clH at cl
    rw [Bool.and_eq_true] at cl
    simp at e; subst e; exact cl.1
  | _ :: _, m + 1, _, cl, e => by
    unfold clH at cl
    rw [Bool.and_eq_true] at cl
    exact clH_get cl.2 (by simpa using e)
theorem clL_get : ∀ {σ : Lo} {i : Nat} {m : MV}, clL n σ = true → σ[i]? = some (some m) → clV n m = true
  | [], _, _, _, e => by simp at e
  | some a :: _, 0, _, cl, e => by
    unfold clL at cl
    rw [Bool.and_eq_true] at cl
    simp at e; subst e; exact cl.1
  | none :: _, 0, _, cl, e => by simp at e
  | some a :: _, i + 1, _, cl, e => by
    unfold clL at cl
    rw [Bool.and_eq_true] at cl
    exact clL_get cl.2 (by simpa using e)
  | none :: _, i + 1, _, cl, e => by
    unfold clL at cl
    exact clL_get cl (by simpa using e)
theorem RepL.shrink {σm : Lo} {σ : St} (sk : Sk n ι ι2) (cl : clL n σm = true) (r : RepL K ι β H σm σ) : RepL K ι2 β H σm σ := ⟨r.len, fun i m e => by
  obtain ⟨v, e1, q⟩ := r.val i m e
  exact ⟨v, e1, q.shrink sk (clL_get cl e)⟩⟩
theorem Rel.shrink {c : C} {mh : MH} (cl : clH n (mh.take n) = true) (r : Rel c ι β H mh) : Rel c (ι.take n) β H (mh.take n) := by
  refine ⟨by simp [r.len], r.nd.sublist (List.take_sublist _ _), fun b hb => ?_, fun m o e => ?_⟩
  · obtain ⟨o, e, x, y⟩ := r.ban b hb
    exact ⟨o, e, not_take x, y⟩
  · have hm : m < n := by
      have := (List.getElem?_eq_some_iff.mp e).1
      rw [List.length_take] at this
      omega
    have e' : mh[m]? = some o := by rw [List.getElem?_take_of_lt hm] at e; exact e
    obtain ⟨a, e1, q⟩ := r.obj m o e'
    exact ⟨a, take_get e1 hm, q.shrink Sk.take' (clH_get cl e)⟩
end
/-! in a held heap all references are to what is mapped -/
section
variable {c : C} {ι β : List Addr} {H : Hp} {n : Nat}
mutual
theorem RepV.clean : ∀ {m : MV} {v : V}, RepV c.K ι β H m v → clV ι.length m = true
  | .non, _, _ => rfl
  | .bl _, _, _ => rfl
  | .int _, _, _ => rfl
  | .str _, _, _ => rfl
  | .tup l, _, h => by
    unfold RepV at h; unfold clV
    obtain ⟨a, vs, e, q, r⟩ := h
    exact RepVs.clean r
  | .lv l, _, h => by
    unfold RepV at h; unfold clV
    obtain ⟨a, vs, e, q, r⟩ := h
    exact RepVs.clean r
  | .dv ks ws, _, h => by
    unfold RepV at h; unfold clV
    obtain ⟨a, l, e, q, k, r⟩ := h
    exact RepVs.clean r
  | .fz l, _, h => by
    unfold RepV at h; unfold clV
    obtain ⟨a, vs, e, q, r⟩ := h
    exact RepVs.clean r
  | .ref m, _, h => by
    unfold RepV at h; unfold clV
    obtain ⟨a, e, q⟩ := h
    exact decide_eq_true (List.getElem?_eq_some_iff.mp q).1
theorem RepVs.clean : ∀ {l : List MV} {vs : List V}, RepVs c.K ι β H l vs → clVs ι.length l = true
  | [], _, _ => rfl
  | m :: l, _, h => by
    obtain ⟨v, r, e, q, t⟩ := h.cons_iff
    unfold clVs
    rw [RepV.clean q, RepVs.clean t]; rfl
end
theorem RepKV.clean : ∀ {l : List (MV × MV)} {r : List (Key × V)}, RepKV c.K ι β H l r → clKV ι.length l = true
  | [], _, _ => rfl
  | _ :: _, _, h => by
    obtain ⟨k', v, r', e, a, b, t⟩ := h
    unfold clKV
    rw [b.clean, RepKV.clean t]; rfl
theorem RepFs.clean : ∀ {l : List (Str × MV)} {r : List (Str × V)}, RepFs c.K ι β H l r → clFs ι.length l = true
  | [], _, _ => rfl
  | _ :: _, _, h => by
    obtain ⟨v, r', e, b, t⟩ := h
    unfold clFs
    rw [b.clean, RepFs.clean t]; rfl
theorem RepO.clean {a : Addr} {o : MO} (h : RepO c ι β H a o) : clO ι.length o = true := by
  cases o with
  | lst l => obtain ⟨vs, q, r⟩ := h; exact r.clean
  | dct l => obtain ⟨vs, q, r⟩ := h; exact r.clean
  | fdc l => obtain ⟨o, vs, q, r⟩ := h; exact r.clean
  | ins m fs => obtain ⟨dx, l, q, r⟩ := h; exact r.clean
theorem clH_of : ∀ {h : MH}, (∀ (m : Nat) o, h[m]? = some o → clO n o = true) → clH n h = true
  | [], _ => rfl
  | a :: l, q => by
    unfold clH
    rw [q 0 a rfl, clH_of (h := l) fun m o e => q (m + 1) o (by simpa using e)]; rfl
theorem Rel.clean {mh : MH} (r : Rel c ι β H mh) : clH mh.length mh = true := clH_of fun m o e => by
  obtain ⟨a, _, q⟩ := r.obj m o e
  rw [r.len]; exact q.clean
end

/-! ### freezing -/
def mapO {α γ : Type} (f : α → Option γ) : List α → Option (List γ)
  | [] => some []
  | a :: l => match f a with
    | none => none
    | some b => match mapO f l with
      | none => none
      | some r => some (b :: r)
def frV (h : MH) (n : Nat) : Nat → MV → Option MV
  | 0, m => if clV n m then some m else none
  | f + 1, m => if clV n m then some m else match m with
    | .tup l => (mapO (frV h n f) l).map .tup
    | .lv l => (mapO (frV h n f) l).map .lv
    | .dv ks ws => (mapO (frV h n f) ws).map (.dv ks)
    | .ref k => match h[k]? with
      | some (.lst l) => (mapO (frV h n f) l).map .lv
      | some (.dct kvs) => (mapO (frV h n f) (kvs.map (·.2))).map (.dv (kvs.map (·.1)))
      | some (.fdc kvs) => (mapO (frV h n f) (kvs.map (·.2))).map (.dv (kvs.map (·.1)))
      | _ => none
    | _ => none
section
variable {c : C} {ι β : List Addr} {H : Hp} {n : Nat} {mh : MH}
theorem RepKV.split : ∀ {l : List (MV × MV)} {r : List (Key × V)}, RepKV c.K ι β H l r → RepKs (l.map (·.1)) (r.map (·.1)) ∧ RepVs c.K ι β H (l.map (·.2)) (r.map (·.2))
  | [], r, h => by
    have e : r = [] := h
    subst e
    exact ⟨rfl, .nil⟩
  | _ :: _, r, h => by
    obtain ⟨k', v, r', e, a, b, t⟩ := h
    subst e
    obtain ⟨p, q⟩ := RepKV.split t
    exact ⟨⟨_, _, rfl, a, p⟩, .cons b q⟩
theorem mapO_rep {ι2 : List Addr} {f : MV → Option MV} (hf : ∀ m m' v, f m = some m' → RepV c.K ι β H m v → RepV c.K ι2 β H m' v) : ∀ {l l' : List MV} {vs : List V}, mapO f l = some l' → RepVs c.K ι β H l vs → RepVs c.K ι2 β H l' vs
  | [], _, _, e, h => by
    simp only [mapO, Option.some.injEq] at e
    subst e
    rw [h.nil_iff]; exact .nil
  | a :: l, _, _, e, h => by
    obtain ⟨v, r, rfl, q, t⟩ := h.cons_iff
    unfold mapO at e
    cases e1 : f a with
    | none => simp [e1] at e
    | some b =>
      cases e2 : mapO f l with
      | none => simp [e1, e2] at e
      | some r' =>
        simp only [e1, e2, Option.some.injEq] at e
        subst e
        exact .cons (hf _ _ _ e1 q) (mapO_rep hf e2 t)
theorem not_take_of {a : Addr} {k : Nat} (nd : ι.Nodup) (e : ι[k]? = some a) (hk : n ≤ k) : a ∉ ι.take n := fun z => by
  obtain ⟨j, hj, ej⟩ := List.getElem_of_mem z
  rw [List.length_take] at hj
  have e1 : ι[j]? = some a := by
    have : (ι.take n)[j]? = some a := by rw [List.getElem?_eq_getElem (by rw [List.length_take]; exact hj), ej]
    rw [List.getElem?_take_of_lt (by omega)] at this
    exact this
  obtain ⟨h1, e2⟩ := List.getElem?_eq_some_iff.mp e
  obtain ⟨h2, e3⟩ := List.getElem?_eq_some_iff.mp e1
  have := (List.getElem_inj nd).mp (e2.trans e3.symm)
  omega
theorem frV_rep {ι2 : List Addr} {hd : MH} (rel : Rel c ι β H mh) (sk : Sk n ι ι2) (hk : ∀ (k : Nat) a o, n ≤ k → hd[k]? = some o → (∀ d fs, o ≠ .ins d fs) → ι[k]? = some a → mh[k]? = some o ∧ a ∉ ι2) : ∀ (f : Nat) (m m' : MV) (v : V), frV hd n f m = some m' → RepV c.K ι β H m v → RepV c.K ι2 β H m' v
  | 0, m, m', v, e, h => by
    unfold frV at e
    split at e
    · rename_i cl
      cases e
      exact h.shrink sk cl
    · cases e
  | f + 1, m, m', v, e, h => by
    unfold frV at e
    split at e
    · rename_i cl
      cases e
      exact h.shrink sk cl
    · rename_i ncl
      cases m with
      | tup l =>
        simp only [Option.map_eq_some_iff] at e
        obtain ⟨l', e, rfl⟩ := e
        unfold RepV at h ⊢
        obtain ⟨a, vs, e', q, r⟩ := h
        refine ⟨a, vs, e', ?_, mapO_rep (frV_rep rel sk hk f) e r⟩
        rcases q with ⟨q, x, y⟩ | q
        · exact .inl ⟨q, sk.out x, y⟩
        · exact .inr q
      | lv l =>
        simp only [Option.map_eq_some_iff] at e
        obtain ⟨l', e, rfl⟩ := e
        unfold RepV at h ⊢
        obtain ⟨a, vs, e', ⟨q, x, y⟩, r⟩ := h
        exact ⟨a, vs, e', ⟨q, sk.out x, y⟩, mapO_rep (frV_rep rel sk hk f) e r⟩
      | dv ks ws =>
        simp only [Option.map_eq_some_iff] at e
        obtain ⟨l', e, rfl⟩ := e
        unfold RepV at h ⊢
        obtain ⟨a, l, e', ⟨q, x, y⟩, k, r⟩ := h
        exact ⟨a, l, e', ⟨q, sk.out x, y⟩, k, mapO_rep (frV_rep rel sk hk f) e r⟩
      | ref k =>
        unfold RepV at h
        obtain ⟨a, rfl, q⟩ := h
        have hnk : n ≤ k := by
          unfold clV at ncl
          simp at ncl
          exact ncl
        have nb : a ∉ β := fun z => by
          obtain ⟨_, _, x, _⟩ := rel.ban a z
          exact x (List.mem_of_getElem? q)
        obtain ⟨o0, eo0, ro⟩ := rel.at q
        cases eo : hd[k]? with
        | none => simp only [eo] at e; cases e
        | some o =>
        simp only [eo] at e
        cases o with
        | lst l =>
          obtain ⟨eo1, na⟩ := hk k a _ hnk eo (by intro d fs z; cases z) q
          rw [eo0] at eo1; cases eo1
          simp only [Option.map_eq_some_iff] at e
          obtain ⟨l', e, rfl⟩ := e
          obtain ⟨vs, hv, r⟩ := ro
          unfold RepV
          exact ⟨a, vs, rfl, ⟨hv, na, nb⟩, mapO_rep (frV_rep rel sk hk f) e r⟩
        | dct kvs =>
          obtain ⟨eo1, na⟩ := hk k a _ hnk eo (by intro d fs z; cases z) q
          rw [eo0] at eo1; cases eo1
          simp only [Option.map_eq_some_iff] at e
          obtain ⟨l', e, rfl⟩ := e
          obtain ⟨l, hv, r⟩ := ro
          obtain ⟨r1, r2⟩ := r.split
          unfold RepV
          exact ⟨a, l, rfl, ⟨⟨_, hv, .inl rfl⟩, na, nb⟩, r1, mapO_rep (frV_rep rel sk hk f) e r2⟩
        | fdc kvs =>
          obtain ⟨eo1, na⟩ := hk k a _ hnk eo (by intro d fs z; cases z) q
          rw [eo0] at eo1; cases eo1
          simp only [Option.map_eq_some_iff] at e
          obtain ⟨l', e, rfl⟩ := e
          obtain ⟨od, l, hv, r⟩ := ro
          obtain ⟨r1, r2⟩ := r.split
          unfold RepV
          exact ⟨a, l, rfl, ⟨⟨_, hv, .inr ⟨od, rfl⟩⟩, na, nb⟩, r1, mapO_rep (frV_rep rel sk hk f) e r2⟩
        | ins m fs => cases e
      | non => cases e
      | bl _ => cases e
      | int _ => cases e
      | str _ => cases e
      | fz _ => cases e
end

/-! ### dropping what is left over -/
def keptH (h h' : MH) : Bool := beqH (h'.take h.length) h || clH h.length (h'.take h.length)
theorem keptH_cl {c : C} {ι β : List Addr} {H : Hp} {h h' : MH} (r : Rel c ι β H h) (k : keptH h h' = true) : clH h.length (h'.take h.length) = true := by
  unfold keptH at k
  rw [Bool.or_eq_true] at k
  rcases k with k | k
  · rw [beqH_eq k]; exact r.clean
  · exact k
/-- behind a call: all new things dropped, the answer frozen -/
def gcF (h : MH) (v : MV) (h' : MH) : R MV :=
  if h'.length ≤ h.length then .ok v h' else
    if keptH h h' then match frV h' h.length 12 v with
      | some v2 => .ok v2 (h'.take h.length)
      | none => .ok v h'
    else .ok v h'
/-- .. the answer kept as one new thing -/
def gcR (h : MH) (v : MV) (h' : MH) : R MV :=
  if keptH h h' then match v with
    | .ref k => if k < h.length then .ok v h' else match h'[k]? with
      | some (.lst l) => match mapO (frV (h'.set k (.ins 0 [])) h.length 12) l with
        | some l2 => .ok (.ref h.length) (h'.take h.length ++ [.lst l2])
        | none => .ok v h'
      | some (.dct kvs) => match mapO (frV (h'.set k (.ins 0 [])) h.length 12) (kvs.map (·.2)) with
        | some l2 => .ok (.ref h.length) (h'.take h.length ++ [.dct ((kvs.map (·.1)).zip l2)])
        | none => .ok v h'
      | _ => .ok v h'
    | _ => .ok v h'
  else .ok v h'
section
variable {c : C} {ι ι' β : List Addr} {H H' : Hp} {mh h' : MH} {v : MV}
theorem Fr.take (f : Fr ι H ι' H') : ι'.take ι.length = ι ∧ Fr ι H ι H' := by
  obtain ⟨t, e⟩ := f.pre
  refine ⟨by rw [e]; simp, ⟨[], by simp⟩, f.keep, fun a x y => absurd x y, f.frz⟩
theorem gcF_of {Q : VK} {W : Value → Option Addr → Hp → Prop} (r0 : Rel c ι β H mh) (p : Post c ι β H (RV c) Q W (gcF mh v h')) : Post c ι β H (RV c) Q W (.ok v h') := by
  unfold gcF at p
  split at p
  · exact p
  · split at p
    · rename_i k
      cases e : frV h' mh.length 12 v with
      | none => simp only [e] at p; exact p
      | some v2 =>
        simp only [e] at p
        intro ι' H' u f rel rv
        obtain ⟨e1, f1⟩ := f.take
        have rel2 := rel.shrink (keptH_cl r0 k)
        have rv2 := frV_rep (n := mh.length) (ι2 := ι'.take mh.length) (hd := h') rel Sk.take' (fun k a o hk eo _ q => ⟨eo, not_take_of rel.nd q hk⟩) 12 v v2 u e rv
        rw [r0.len, e1] at rel2 rv2
        rw [r0.len] at p
        exact p ι H' u f1 rel2 rv2
    · exact p
theorem RepKV.zip : ∀ {ks : List MV} {ws : List MV} {l : List (Key × V)}, RepKs ks (l.map (·.1)) → RepVs c.K ι β H ws (l.map (·.2)) → RepKV c.K ι β H (ks.zip ws) l
  | [], ws, l, hk, hv => by
    have e : l.map (·.1) = [] := hk
    have e2 : l = [] := by simpa using e
    subst e2
    rfl
  | k :: ks, ws, l, hk, hv => by
    obtain ⟨k', r', e, a, t⟩ := hk
    cases l with
    | nil => simp at e
    | cons p l =>
      simp only [List.map_cons, List.cons.injEq] at e
      obtain ⟨rfl, rfl⟩ := e
      cases ws with
      | nil => have := hv.length; simp at this
      | cons w ws =>
        obtain ⟨u, r, e2, q, t2⟩ := hv.cons_iff
        simp only [List.map_cons, List.cons.injEq] at e2
        obtain ⟨rfl, rfl⟩ := e2
        exact ⟨p.1, p.2, l, rfl, a, q, RepKV.zip t t2⟩
theorem gcR_of {Q : VK} {W : Value → Option Addr → Hp → Prop} (r0 : Rel c ι β H mh) (p : Post c ι β H (RV c) Q W (gcR mh v h')) : Post c ι β H (RV c) Q W (.ok v h') := by
  unfold gcR at p
  split at p
  · rename_i k
    have cl := keptH_cl r0 k
    cases v with
    | ref m =>
      simp only at p
      split at p
      · exact p
      · rename_i hm
        have hm' : ι.length ≤ m := by rw [← r0.len]; omega
        -- what all ways have in common
        have key : ∀ (mo : MO), (∀ ι' H' a, ι'[m]? = some a → Rel c ι' β H' h' → Sk ι.length ι' (ι'.take ι.length ++ [a]) → (∀ (k : Nat) b o, ι.length ≤ k → (h'.set m (.ins 0 []))[k]? = some o → (∀ d fs, o ≠ .ins d fs) → ι'[k]? = some b → h'[k]? = some o ∧ b ∉ ι'.take ι.length ++ [a]) → RepO c (ι'.take ι.length ++ [a]) β H' a mo) →
            Post c ι β H (RV c) Q W (.ok (.ref mh.length) (h'.take mh.length ++ [mo])) → Post c ι β H (RV c) Q W (.ok (.ref m) h') := by
          intro mo hmo p ι' H' u f rel rv
          unfold RepV at rv
          obtain ⟨a, rfl, ea⟩ := rv
          obtain ⟨e1, f1⟩ := f.take
          have na : a ∉ ι := by
            have := not_take_of (n := ι.length) rel.nd ea hm'
            rwa [e1] at this
          have hn : H a = none := f.news a (List.mem_of_getElem? ea) na
          have sk : Sk ι.length ι' (ι'.take ι.length ++ [a]) := by
            refine ⟨fun x hx => ?_, fun j x hj ex => ?_⟩
            · rcases List.mem_append.mp hx with z | z
              · exact List.mem_of_mem_take z
              · have : x = a := by simpa using z
                rw [this]; exact List.mem_of_getElem? ea
            · rw [List.getElem?_append_left (by rw [e1]; exact hj)]
              exact take_get ex hj
          have ro := hmo ι' H' a ea rel sk fun k b o hk eo hi eb => by
            have hkm : k ≠ m := by
              rintro rfl
              rw [List.getElem?_set_self (by rw [rel.len]; exact (List.getElem?_eq_some_iff.mp ea).1)] at eo
              cases eo
              exact hi _ _ rfl
            rw [List.getElem?_set_ne (Ne.symm hkm)] at eo
            refine ⟨eo, fun z => ?_⟩
            rcases List.mem_append.mp z with z | z
            · exact not_take_of rel.nd eb hk z
            · have : b = a := by simpa using z
              subst this
              obtain ⟨h1, e2⟩ := List.getElem?_eq_some_iff.mp eb
              obtain ⟨h2, e3⟩ := List.getElem?_eq_some_iff.mp ea
              exact hkm ((List.getElem_inj rel.nd).mp (e2.trans e3.symm))
          rw [e1] at ro sk
          rw [r0.len] at p cl
          have hl : (h'.take ι.length).length = ι.length := by
            rw [List.length_take, rel.len]
            have : ι.length ≤ ι'.length := by
              obtain ⟨t, e⟩ := f.pre
              rw [e, List.length_append]; omega
            omega
          refine p (ι ++ [a]) H' (.ref a) ⟨⟨[a], rfl⟩, f.keep, fun b hb nb => ?_, f.frz⟩ ⟨?_, ?_, fun b hb => ?_, fun j o' e' => ?_⟩ ?_
          · rcases List.mem_append.mp hb with z | z
            · exact absurd z nb
            · have : b = a := by simpa using z
              rw [this]; exact hn
          · simp only [List.length_append, hl, List.length_cons, List.length_nil]
          · refine List.nodup_append.mpr ⟨r0.nd, by simp, fun x hx b hb => ?_⟩
            have : b = a := by simpa using hb
            subst this
            rintro rfl
            exact na hx
          · obtain ⟨o', e', x, y⟩ := rel.ban b hb
            exact ⟨o', e', sk.out x, y⟩
          · by_cases hj : j < ι.length
            · rw [List.getElem?_append_left (by rw [hl]; exact hj)] at e'
              have e2 : h'[j]? = some o' := by rw [List.getElem?_take_of_lt hj] at e'; exact e'
              obtain ⟨b, eb, rb⟩ := rel.obj j o' e2
              exact ⟨b, sk.get _ _ hj eb, rb.shrink sk (clH_get cl e')⟩
            · rw [List.getElem?_append_right (by rw [hl]; omega), hl] at e'
              have hz : j - ι.length = 0 := by
                have := (List.getElem?_eq_some_iff.mp e').1
                simp at this
                exact this
              rw [hz] at e'
              simp at e'
              subst e'
              exact ⟨a, by rw [List.getElem?_append_right (by omega), hz]; rfl, ro⟩
          · unfold RepV
            exact ⟨a, rfl, by rw [List.getElem?_append_right (Nat.le_refl _)]; simp⟩
        cases eo : h'[m]? with
        | none => simp only [eo] at p; exact p
        | some o =>
          simp only [eo] at p
          cases o with
          | lst l =>
            simp only at p
            cases el : mapO (frV (h'.set m (.ins 0 [])) mh.length 12) l with
            | none => simp only [el] at p; exact p
            | some l2 =>
              simp only [el] at p
              refine key _ (fun ι' H' a ea rel sk hk => ?_) p
              obtain ⟨o2, e2, r2⟩ := rel.at ea
              rw [eo] at e2; cases e2
              obtain ⟨vs, hv, r⟩ := r2
              rw [r0.len] at el
              exact ⟨vs, hv, mapO_rep (frV_rep rel sk hk 12) el r⟩
          | dct kvs =>
            simp only at p
            cases el : mapO (frV (h'.set m (.ins 0 [])) mh.length 12) (kvs.map (·.2)) with
            | none => simp only [el] at p; exact p
            | some l2 =>
              simp only [el] at p
              refine key _ (fun ι' H' a ea rel sk hk => ?_) p
              obtain ⟨o2, e2, r2⟩ := rel.at ea
              rw [eo] at e2; cases e2
              obtain ⟨l, hv, r⟩ := r2
              obtain ⟨q1, q2⟩ := r.split
              rw [r0.len] at el
              exact ⟨l, hv, RepKV.zip q1 (mapO_rep (frV_rep rel sk hk 12) el q2)⟩
          | fdc kvs => exact p
          | ins d fs => exact p
    | _ => exact p
  · exact p
end
end MP

/-! Mirror layer: defs run where no repr is under way (A.guards known to be empty), so that repr may stand in them. -/
namespace MP
open PySem PySem.Spec PyProof.Rows L2
/-- room, and no repr under way -/
structure RoomG (k : Nat) (A : Around) : Prop extends Room k A where
  gd : A.guards = some []
theorem RoomG.less {j k : Nat} {A : Around} (r : RoomG k A) (h : j ≤ k) : RoomG j A := ⟨r.toRoom.mono h, r.gd⟩
theorem RoomG.inner {k : Nat} {A : Around} (r : RoomG (k + 1) A) (env : Env) : RoomG k (A.deeper env) := ⟨r.toRoom.deeper env, r.gd⟩
/-- a def's promise, there -/
structure FnG (P : Program) (w : World) (K : PySem.W.Frag) (mg : Str → Option Value) (base : Heap) (CX : CXT) (k : Nat) (f : Addr) (fd : FuncData) (ps : List Str) (sp : Sp) : Prop where
  len : ∀ vs H Q E, sp vs H Q E → vs.length = ps.length
  go : ∀ {A : Around} {outer : List Env} {s : Shared} {H : Hp} {args : Args} {us : List Value} {vs : List V} {Q : VK} {E : XK}, RoomG k A → Env0 P w K mg base A outer s H → BindsTo s fd args (ps.zip us) → Vals vs us → sp vs H Q E → codeAny (model P w) A (.call (.ref f) args) (CR CX outer P w H s Q E) s
section
variable {P : Program} {w : World} {K : PySem.W.Frag} {mg : Str → Option Value} {base : Heap} {CX : CXT} {j k : Nat} {f : Addr} {fd : FuncData} {ps : List Str} {sp sp' : Sp}
theorem FnG.less (F : FnG P w K mg base CX j f fd ps sp) (h : j ≤ k) : FnG P w K mg base CX k f fd ps sp := ⟨F.len, fun r e b v q => F.go (r.less h) e b v q⟩
theorem FnG.weak (F : FnG P w K mg base CX k f fd ps sp) (h : ∀ vs H Q E, sp' vs H Q E → sp vs H Q E) : FnG P w K mg base CX k f fd ps sp' := ⟨fun _ _ _ _ q => F.len _ _ _ _ (h _ _ _ _ q), fun r e b v q => F.go r e b v (h _ _ _ _ q)⟩
/-- by its body -/
theorem fnG {x qual : Str} {st : Stmt} {N : List Str} (F : Fun K x qual st f fd) (S : FnScope N ps (defScope st)) (len : ∀ vs H Q E, sp vs H Q E → vs.length = ps.length)
    (hb : ∀ (cdv : Value) (A : Around) (outer : List Env) (s : Shared) (H : Hp) (vs : List V) (Q : VK) (E : XK), RoomG k (A.deeper (envOfC qual (defScope st) s.heap.objs.size f cdv)) → sp vs H Q E → ∃ t, PSs (cxOf CX P w K mg base N qual (defScope st) f cdv A outer s H E) (defBody st) t ∧ t { nx := fun _ H' => Q .non H', rt := Q } (start N vs) H) :
    FnG P w K mg base CX (k + 1) f fd ps sp := by
  obtain ⟨oc, od, kV, doc, pm, an, cdv, ct, osl, rfl, lk, hcd⟩ := F.ex
  constructor
  · exact len
  · intro A outer s H args us vs Q E room env bound rv q
    have size := len _ _ _ _ q
    have keep : ∀ {b : Addr} {o : Obj}, base.get? b = some o → s.heap.get? b = some o := fun e => (env.bs _ _ e).1
    have kin : K.In s.heap := env.mod.kin.keeps fun b o e => keep e
    have kinds : ∀ y ∈ ps.zip us, (defScope st).names.lookup y.1 = some .local ∨ ((defScope st).names.lookup y.1 = some .cell ∧ ((cellsFrom (s.heap.objs.size + 1) (defScope st).names []).lookup y.1).isSome = true) := by
      rintro ⟨n, v⟩ hy
      exact (S.par n (List.of_mem_zip hy).1).imp id fun c => ⟨c, PySem.W.cellsFrom_some _ _ _ (.inl c)⟩
    have body := hb cdv A outer s H vs Q E (room.inner (envOfC qual (defScope st) s.heap.objs.size f cdv)) q
    obtain ⟨t, ht, hq⟩ := body
    refine codeAny_call_function room.toRoom.depth (kin _ _ lk) rfl S.co S.gen rfl (PySem.W.codeRec_of kin hcd) (bound _ _ _ _ ?_)
    apply wpAny_newFunctionEnv_cells S.kind kinds
    intro ev he s1 inn
    subst he
    refine ⟨(env.mod.nolimit.keeps fun b o e => keep e).keeps inn.toInCall.keep, codeAny_func ?_⟩
    have begin_ := inv_start (CX := CX) (P := P) (w := w) (E := E) S room.toRoom.hd env size rv inn
    refine wpAny_mono (ht.run [] s1 (start N vs) H _ begin_ hq) ?_ fun _ _ z => z
    rintro (_ | _ | _ | u) s' z
    · obtain ⟨σ', H', J, q⟩ := z
      exact ⟨V.non, H', J.os, J.bare, J.base, J.hok, rfl, q⟩
    · obtain ⟨_, _, _, q⟩ := z
      exact q.elim
    · obtain ⟨_, _, _, q⟩ := z
      exact q.elim
    · obtain ⟨v, σ', H', J, rv, q⟩ := z
      exact ⟨v, H', J.os, J.bare, J.base, J.hok, rv, q⟩
end
section
variable {X : Cx} {k : Nat} {f : Addr} {fd : FuncData} {ps ks : List Str} {sp : Sp} {x : Str} {p pos : Pos} {e : Expr} {es : List Expr} {t tk : TA} {pins : List (Addr × Obj)} {H : Hp} {s : Shared} {Q : VK} {us ws : List Value} {vs zs : List V}
/-- what stands behind a call, for the caller -/
theorem CR.done {σ : St} {CX : CXT} {E : XK} (hx : PassesAt CX X σ E) (I : Inv X pins σ H s) : ∀ {r : Result} {s' : Shared}, CR CX X.stack X.prog X.w H s Q E r s' → (match r with
    | .ok (.ret u) => EP X pins σ Q u s'
    | .ok _ => False
    | .error z => X.xe z s')
  | .error z, _, h => hx pins H s z _ I h
  | .ok (.ret _), _, h => I.after h
  | .ok .next, _, h => h
  | .ok .brk, _, h => h
  | .ok .cont, _, h => h
theorem run_G {σ : St} {CX : CXT} {E : XK} {args : Args} (F : FnG X.prog X.w X.K X.mg X.base CX k f fd ps sp) (hr : RoomG k X.A) (hb : BindsTo s fd args (ps.zip us)) (hx : PassesAt CX X σ E) (I : Inv X pins σ H s) (r : Vals vs us) (h : sp vs H Q E) :
    codeAny (model X.prog X.w) X.A (.call (.ref f) args) (fun r s' => match r with
      | .ok (.ret u) => EP X pins σ Q u s'
      | .ok _ => False
      | .error z => X.xe z s') s :=
  codeAny_mono (F.go hr I.env0 hb r h) fun _ _ z => CR.done hx I z
theorem call_G {σ : St} {CX : CXT} {E : XK} (F : FnG X.prog X.w X.K X.mg X.base CX k f fd ps sp) (hr : RoomG k X.A) (hb : Binds X.K fd ps []) (hx : PassesAt CX X σ E) (I : Inv X pins σ H s) (r : Vals vs us) (h : sp vs H Q E) : wpAny (model X.prog X.w) X.A (call (.ref f) us) (EP X pins σ Q) X.xe s := by
  have b := hb s us I.kIn (by rw [List.append_nil, ← r.length]; exact F.len _ _ _ _ h)
  rw [List.append_nil] at b
  exact wpAny_call (codeAny_mono (run_G F hr b hx I r h) fun r s' z => by rcases r with z2 | (_ | _ | _ | u) <;> first | exact z | exact z.elim)
theorem call_GK {σ : St} {CX : CXT} {E : XK} {g : List Value → List Value → List Value} {gV : List V → List V → List V} (F : FnG X.prog X.w X.K X.mg X.base CX k f fd ps sp) (hr : RoomG k X.A) (hb : KBinds X.K fd ps ks g gV) (hx : PassesAt CX X σ E) (I : Inv X pins σ H s) (r : Vals vs us) (rz : Vals zs ws) (h : sp (gV vs zs) H Q E) :
    wpAny (model X.prog X.w) X.A (call (.ref f) us (ks.zip ws)) (EP X pins σ Q) X.xe s := by
  have b := hb.to s us ws I.kIn (by rw [← (hb.rel r rz).length]; exact F.len _ _ _ _ h)
  exact wpAny_call (codeAny_mono (run_G F hr b hx I (hb.rel r rz) h) fun r s' z => by rcases r with z2 | (_ | _ | _ | u) <;> first | exact z | exact z.elim)
theorem pe_G {E : St → XK} {CX : CXT} (F : FnG X.prog X.w X.K X.mg X.base CX k f fd ps sp) (hr : RoomG k X.A) (hg : Gl X x) (hm : X.mg x = some (.ref f)) (hk : PySem.W.keepIn X.K (.ref f) = true) (hb : Binds X.K fd ps []) (hx : ∀ σ, PassesAt CX X σ (E σ))
    (ha : PA X (e :: es) t) (hdb : (x == ("__debug__" : Str)) = false := by decide) (he : starEach (e :: es) X.env = (false, eval e X.env) :: starEach es X.env := by rfl) (hpl : (backTo pos (starEach es X.env)).any (·.1) = false := by rfl) :
    PE X (.Call (.Name x p) (e :: es) [] pos) (tCallS sp E t) := by
  constructor
  intro pins s σ H Q I h
  apply wpAny_Call_Name_kw
  refine ld_glob I hg hm ?_ hdb
  refine PySem.W.callWith_K (h₀ := X.base) I.ok.mod.kin hk ?_ he hpl
  exact thn (ha.run pos pins s σ H _ I h) fun us s1 ⟨vs, H1, I1, r, q⟩ => ⟨I1.kIn, call_G F hr hb (hx σ) I1 r q⟩
theorem pe_G0 {E : St → XK} {CX : CXT} (F : FnG X.prog X.w X.K X.mg X.base CX k f fd ps sp) (hr : RoomG k X.A) (hg : Gl X x) (hm : X.mg x = some (.ref f)) (hk : PySem.W.keepIn X.K (.ref f) = true) (hb : Binds X.K fd ps []) (hx : ∀ σ, PassesAt CX X σ (E σ))
    (hdb : (x == ("__debug__" : Str)) = false := by decide) : PE X (.Call (.Name x p) [] [] pos) (fun σ H Q => sp [] H Q (E σ)) := by
  constructor
  intro pins s σ H Q I h
  apply wpAny_Call_Name_kw
  refine ld_glob I hg hm ?_ hdb
  exact PySem.W.callWith_K0 I.kIn hk (call_G (us := []) F hr hb (hx σ) I .nil h)
theorem pe_GK {E : St → XK} {CX : CXT} {kws : List Keyword} {gg : List Value → List Value → List Value} {gV : List V → List V → List V} (F : FnG X.prog X.w X.K X.mg X.base CX k f fd ps sp) (hr : RoomG k X.A) (hg : Gl X x) (hm : X.mg x = some (.ref f)) (hk : PySem.W.keepIn X.K (.ref f) = true) (hb : KBinds X.K fd ps ks gg gV) (hx : ∀ σ, PassesAt CX X σ (E σ))
    (hkw : PK X kws tk) (hall : (backToKw pos (keywordEach kws X.env)).all (·.1.isSome) = true := by rfl) (hks : (backToKw pos (keywordEach kws X.env)).filterMap (·.1) = ks := by rfl)
    (hdb : (x == ("__debug__" : Str)) = false := by decide) (hpl : ((backTo pos (starEach [] X.env)).any (·.1) || (backToKw pos (keywordEach kws X.env)).any (·.1.isNone)) = false := by rfl) :
    PE X (.Call (.Name x p) [] kws pos) (fun σ H Q => tk σ H fun zs H1 => sp (gV [] zs) H1 Q (E σ)) := by
  constructor
  intro pins s σ H Q I h
  apply wpAny_Call_Name_kw
  refine ld_glob I hg hm ?_ hdb
  refine PySem.W.callWith_KW0 (h₀ := X.base) I.ok.mod.kin hk hall ?_ hpl
  refine thn (hkw.run pos pins s σ H _ I h) fun ws s2 ⟨zs, H2, I2, rz, q2⟩ => ⟨I2.kIn, ?_⟩
  rw [hks]
  exact call_GK (us := []) (vs := []) F hr hb (hx σ) I2 .nil rz q2
end
end MP

/-! Mirror layer: the law's end, over FnG. -/
namespace MP
open PySem PySem.Spec PyProof.Rows L2
theorem callerG {k : Nat} (h : Room k callerA) : RoomG k callerA := ⟨h, rfl⟩
def EndG (s₁ : Shared) (r : Result) (s' : Shared) : Prop := r = .ok (.ret (.bool true)) ∧ OldK s₁.heap s'.heap ∧ s'.os = s₁.os ∧ AllBare s'.gens
section
variable {P : Program} {w : World} {K : PySem.W.Frag} {mg mb : Str → Option Value} {CX : CXT} {k : Nat} {fa a : Addr} {fd : FuncData} {x : Str} {sp : Sp} {s₁ : Shared} {vs : List Value} {ns : List Int}
/-- what the abstract heap hides of the law's start: nothing but the script -/
structure StartH (P : Program) (w : World) (K : PySem.W.Frag) (H : Hp) (h : Heap) (a : Addr) : Prop where
  only : Only H
  ok : HOk P w H h
  at_ : ∀ b, H b ≠ none → b = a
  own : H a ≠ none → K.lookup a = none
theorem StartH.none_of {H : Hp} {h : Heap} (S : StartH P w K H h a) {b : Addr} (n : b ≠ a) : H b = none := by
  cases e : H b with
  | none => rfl
  | some u => exact absurd (S.at_ b (by rw [e]; simp)) n
theorem startG (KX : K.In s₁.heap) (hns : s₁.heap.Ns mainGlobals mg) (hb : s₁.heap.Ns builtinsNs mb) (hbb : ∀ x : Str, x ≠ "__name__" → mb x = bootBuiltins x) (hlim : s₁.heap.NoLimit) (hg : s₁.gens = #[])
    (ha : s₁.heap.get? a = some { cls := .type "list", data := .seq vs.toArray }) (hr : Room k callerA) (F : ∀ base : Heap, K.In base → base.Ns mainGlobals mg → FnG P w K mg base CX k fa fd [x] sp) (hbind : ∀ (s : Shared) (u : Value), BindsTo s fd ⟨[u], []⟩ [(x, u)])
    (hCX : ∀ H e s', CX [] H s₁ (fun _ _ _ => False) e s' → False) {H : Hp} (S : StartH P w K H s₁.heap a) (hsp : sp [.ref a] H (fun v _ => v = .bl true) fun _ _ _ => False) : codeAny (model P w) callerA (.call (.ref fa) ⟨[.ref a], []⟩) (EndG s₁) s₁ := by
  have shown : ∀ {b : Addr} {o : Obj}, s₁.heap.get? b = some o → b ≠ a → (hidT s₁.heap H).get? b = some o := fun e n => hidT_get e (S.none_of n)
  have spaces : ∀ {b : Addr} {m : Str → Option Value}, s₁.heap.Ns b m → (hidT s₁.heap H).Ns b m := by
    rintro b m ⟨o, es, ep, e, d, r⟩
    refine ⟨o, es, ep, shown e ?_, d, r⟩
    rintro rfl
    rw [ha] at e
    injection e with e
    subst e
    exact nomatch d
  have written : K.In (hidT s₁.heap H) := by
    intro b o e
    by_cases z : b = a
    · subst z
      refine hidT_get (KX b o e) ?_
      cases q : H b with
      | none => rfl
      | some u =>
        have := S.own (by rw [q]; simp)
        rw [e] at this; cases this
    · exact shown (KX b o e) z
  have mod : Mod K mg (hidT s₁.heap H) := ⟨written, spaces hns, ⟨mb, spaces hb, hbb⟩, by obtain ⟨mc, h1, h2⟩ := hlim; exact ⟨mc, spaces h1, h2⟩⟩
  have env : Env0 P w K mg (hidT s₁.heap H) callerA [] s₁ H := ⟨rfl, mod, fun b o e => of_hidT e, Nat.le_of_eq (hidT_size _ _), trivial, fun b m => absurd (show b ∈ ([] : List Addr) from m) (by simp), S.ok, .of_eq hg⟩
  refine codeAny_mono ((F _ written (spaces hns)).go (callerG hr) env (us := [.ref a]) (vs := [.ref a]) (hbind s₁ (.ref a)) (.cons rfl .nil) hsp) ?_
  rintro (z | (_ | _ | _ | u)) s' h
  · exact (hCX H z s' h).elim
  · exact h.elim
  · exact h.elim
  · exact h.elim
  · obtain ⟨v, H', os, bare, un, ok', rel, q⟩ := h
    have q : v = .bl true := q
    subst q
    have rel : u = Value.bool true := rel
    subst rel
    refine ⟨rfl, OldK.of_keep fun b o e => ?_, os, bare⟩
    rcases S.only b with z | ⟨ob, xs, z⟩
    · exact un.keep b o e z (fun m => absurd (show b ∈ ([] : List Addr) from m) (by simp)) (by simp)
    · have h1 := (S.ok b _ z).1
      have h2 := (ok' b _ (un.frzs b ob _ z)).1
      rw [e] at h1
      injection h1 with h1
      rw [h1]; exact h2
theorem callG (KX : K.In s₁.heap) (hns : s₁.heap.Ns mainGlobals mg) (hb : s₁.heap.Ns builtinsNs mb) (hbb : ∀ x : Str, x ≠ "__name__" → mb x = bootBuiltins x) (hlim : s₁.heap.NoLimit) (hg : s₁.gens = #[])
    (ha : s₁.heap.get? a = some { cls := .type "list", data := .seq vs.toArray }) (hi : IntsAre vs ns) (hl : ns.length ≤ sizeLine) (hr : Room k callerA) (F : ∀ base : Heap, K.In base → base.Ns mainGlobals mg → FnG P w K mg base CX k fa fd [x] sp) (hbind : ∀ (s : Shared) (u : Value), BindsTo s fd ⟨[u], []⟩ [(x, u)])
    (hsp : ∀ H : Hp, Only H → SqL K H a (ns.map V.int) → sp [.ref a] H (fun v _ => v = .bl true) fun _ _ _ => False) (hCX : ∀ H e s', CX [] H s₁ (fun _ _ _ => False) e s' → False) : codeAny (model P w) callerA (.call (.ref fa) ⟨[.ref a], []⟩) (EndG s₁) s₁ := by
  have items := vals_ints hi
  have many := hi.length
  cases own : K.lookup a with
  | some o =>
    have e := (KX a o own).symm.trans ha
    injection e with e
    subst e
    have S : StartH P w K (fun _ => none) s₁.heap a := ⟨fun _ => .inl rfl, fun b u z => (nomatch (z : (none : Option HO) = some u)), fun b z => absurd rfl z, fun z => absurd rfl z⟩
    exact startG KX hns hb hbb hlim hg ha hr F hbind hCX S (hsp _ S.only (.inr ⟨_, vs.toArray, _, own, rfl, rfl, rfl, by rw [List.size_toArray, many]; exact hl, by simpa using items⟩))
  | none =>
    let ob : Obj := { cls := .type "list", data := .seq vs.toArray }
    have S : StartH P w K (fun b => if b = a then some (.frz ob (.lst (ns.map V.int))) else none) s₁.heap a := by
      constructor
      · intro b
        by_cases z : b = a
        · exact .inr ⟨ob, ns.map V.int, by simp only [z, if_true]⟩
        · exact .inl (by simp only [z, if_false])
      · intro b u z
        by_cases e : b = a
        · subst e
          simp only [if_true] at z
          injection z with z
          subst z
          exact ⟨ha, by rw [List.length_map]; exact hl, vs, _, items, ha⟩
        · simp only [e, if_false] at z
          cases z
      · intro b z
        by_cases e : b = a
        · exact e
        · simp only [e, if_false] at z
          exact absurd rfl z
      · intro _; exact own
    exact startG KX hns hb hbb hlim hg ha hr F hbind hCX S (hsp _ S.only (.inl (.inr ⟨ob, by simp⟩)))
end
theorem walkG {l : PySem.W.OpenLaw} {n k : Nat} {q : Program} {loose : List Str} {XP : (Str → Option Value) → Heap → Prop} {YP : World → Heap → Prop} {d : DefRec} {K : Params → PySem.W.Frag} {CX : World → CXT} {sp : World → Sp} {x : Str} (hn : l.most = some n) (hn2 : n ≤ sizeLine) (hdf : d.params.defaults = []) (hr : Room k callerA)
    (hY : ∀ (w : World) (h : Heap), YP w h → (K w.params).In h) (F : ∀ (w : World) (mg : Str → Option Value) (fa : Addr) (h : Heap), (K w.params).In h → h.Ns mainGlobals mg → mg d.name = some (.ref fa) → ∃ fd : FuncData, (∀ (s : Shared) (u : Value), BindsTo s fd ⟨[u], []⟩ [(x, u)]) ∧ ∀ base : Heap, (K w.params).In base → base.Ns mainGlobals mg → FnG l.prog w (K w.params) mg base (CX w) k fa fd [x] (sp w))
    (hsp : ∀ (w : World) (H : Hp) (a : Addr) (ns : List Int), ns.length ≤ n → Only H → SqL (K w.params) H a (ns.map V.int) → sp w [.ref a] H (fun v _ => v = .bl true) fun _ _ _ => False) (hCX : ∀ (w : World) (H : Hp) (s : Shared) (e : Value) (s' : Shared), CX w [] H s (fun _ _ _ => False) e s' → False) :
    PySem.W.WalkO q loose XP YP l.row.toRowW d [] (fun f vs => PySem.call f vs) := by
  apply Att.attach_call hn hdf
  intro w s₀ s₁ mg mb fa o pm cd doc a vs ns G Y ho hd hcd hmg hobj hints hlen hg
  obtain ⟨fd, hb, hF⟩ := F w mg fa _ (hY w _ Y) G.T.g hmg
  exact callG (hY w _ Y) G.T.g G.T.b G.T.builtins G.T.nolimit hg hobj hints (Nat.le_trans hlen hn2) hr hF hb (fun H hO hS => hsp w H a ns hlen hO hS) fun H e s' => hCX w H s₁ e s'
end MP

/-! Mirror layer, part 4: defs, calls, loops, comprehensions. -/
namespace MP
open PySem PySem.Spec PyProof.Rows L2

/-! ### a loop's turn: what is left over is dropped -/
def killL (ks : List Nat) (σ : Lo) : Lo := ks.foldr (fun i l => l.set i none) σ
def gcL (ks : List Nat) (h : MH) (σ : Lo) (h' : MH) : Lo × MH :=
  if h'.length ≤ h.length then (killL ks σ, h') else if clL h.length (killL ks σ) && keptH h h' then (killL ks σ, h'.take h.length) else (killL ks σ, h')
def sGc (ks : List Nat) (body : SM) : SM := fun σ h => match body σ h with
  | .nx σ2 h2 => .nx (gcL ks h σ2 h2).1 (gcL ks h σ2 h2).2
  | .ct σ2 h2 => .ct (gcL ks h σ2 h2).1 (gcL ks h σ2 h2).2
  | x => x
section
variable {c : C} {ι ι' β : List Addr} {H H' : Hp} {mh h' : MH} {σm : Lo} {σ : St}
theorem RepL.kill (ks : List Nat) (r : RepL c.K ι β H σm σ) : RepL c.K ι β H (killL ks σm) σ := by
  induction ks with
  | nil => exact r
  | cons i ks ih =>
    refine ⟨by show ((killL ks σm).set i none).length = _; rw [List.length_set]; exact ih.len, fun j m e => ?_⟩
    have e' : ((killL ks σm).set i none)[j]? = some (some m) := e
    by_cases hj : j = i
    · subst hj
      rw [List.getElem?_set] at e'
      simp at e'
    · rw [List.getElem?_set_ne (Ne.symm hj)] at e'
      exact ih.val j m e'
theorem gcL_of (ks : List Nat) (r0 : Rel c ι β H mh) (f : Fr ι H ι' H') (rel : Rel c ι' β H' h') (rl : RepL c.K ι' β H' σm σ) :
    ∃ ι2, Fr ι H ι2 H' ∧ Rel c ι2 β H' (gcL ks mh σm h').2 ∧ RepL c.K ι2 β H' (gcL ks mh σm h').1 σ := by
  unfold gcL
  split
  · exact ⟨ι', f, rel, rl.kill ks⟩
  · split
    · rename_i k
      rw [Bool.and_eq_true] at k
      obtain ⟨e1, f1⟩ := f.take
      have rel2 := rel.shrink (keptH_cl r0 k.2)
      have rl2 := (rl.kill ks).shrink (Sk.take' (n := mh.length)) k.1
      rw [r0.len, e1] at rel2 rl2
      rw [r0.len]
      exact ⟨ι, f1, rel2, rl2⟩
    · exact ⟨ι', f, rel, rl.kill ks⟩
theorem sGc_of {D : Ends} {W : WX} {ks : List Nat} {body : SM} (r0 : Rel c ι β H mh) (p : PostS c ι β H D W (sGc ks body σm mh)) : PostS c ι β H D W (body σm mh) := by
  unfold sGc at p
  cases e : body σm mh with
  | nx σ2 h2 =>
    simp only [e] at p
    intro ι' H' σ' f rel rl
    obtain ⟨ι2, f2, rel2, rl2⟩ := gcL_of ks r0 f rel rl
    exact p ι2 H' σ' f2 rel2 rl2
  | ct σ2 h2 =>
    simp only [e] at p
    intro ι' H' σ' f rel rl
    obtain ⟨ι2, f2, rel2, rl2⟩ := gcL_of ks r0 f rel rl
    exact p ι2 H' σ' f2 rel2 rl2
  | rt v h2 => simp only [e] at p; exact p
  | bk σ2 h2 => simp only [e] at p; exact p
  | ex x σ2 h2 => simp only [e] at p; exact p
  | bad => simp only [e] at p; exact p
theorem ss_gc {X : Cx} {W : WX} {st : List Stmt} {body : SM} (ks : List Nat) (h : PSs X st (tS c W body)) : PSs X st (tS c W (sGc ks body)) :=
  h.wk fun D σ H ⟨ι, β, mh, σm, rel, rl, p⟩ => ⟨ι, β, mh, σm, rel, rl, sGc_of rel p⟩
end

/-! ### defs -/
@[simp] def fnM (N : Nat) (body : SM) (args : List MV) (h : MH) : R MV :=
  match body (args.map some ++ List.replicate (N - args.length) none) h with
  | .nx _ h' => .ok .non h'
  | .rt v h' => .ok v h'
  | .ex e _ h' => .ex e h'
  | _ => .bad
def spM (c : C) (n : Nat) (m : List MV → MH → R MV) : Sp := fun vs H Q E => vs.length = n ∧ ∃ ι β mh ms, Rel c ι β H mh ∧ RepVs c.K ι β H ms vs ∧ Post c ι β H (RV c) Q (fun cls d H' => E cls d H') (m ms mh)
theorem RepL.start {K : PySem.W.Frag} {ι β : List Addr} {H : Hp} (n : Nat) : ∀ {ms : List MV} {vs : List V}, RepVs K ι β H ms vs → RepL K ι β H (ms.map some ++ List.replicate n none) (vs.map some ++ List.replicate n none) := by
  intro ms vs r
  refine ⟨by simp [r.length], fun i m e => ?_⟩
  by_cases hi : i < ms.length
  · rw [List.getElem?_append_left (by simpa using hi)] at e
    rw [List.getElem?_map] at e
    cases e1 : ms[i]? with
    | none => rw [e1] at e; simp at e
    | some m' =>
      rw [e1] at e
      simp at e
      subst e
      obtain ⟨v, ev, q⟩ := r.get e1
      refine ⟨v, ?_, q⟩
      rw [List.getElem?_append_left (by simp only [List.length_map]; rw [← r.length]; exact hi), List.getElem?_map, ev]
      rfl
  · rw [List.getElem?_append_right (by simp only [List.length_map]; omega)] at e
    rw [List.getElem?_replicate] at e
    split at e <;> simp at e
section
variable {P : Program} {w : World} {K : PySem.W.Frag} {mg : Str → Option Value} {base : Heap}
theorem fn_okM {c : C} {x qual : Str} {st : Stmt} {f : Addr} {fd : FuncData} {N ps : List Str} {k : Nat} {body : SM} (F : Fun K x qual st f fd) (S : FnScope N ps (defScope st))
    (hb : ∀ (cdv : Value) (A : Around) (outer : List Env) (s : Shared) (H : Hp) (E : XK), RoomG k (A.deeper (envOfC qual (defScope st) s.heap.objs.size f cdv)) →
      PSs (cxOf (L2.CX P w) P w K mg base N qual (defScope st) f cdv A outer s H E) (defBody st) (tS c (fun cls d _ H' => E cls d H') body)) :
    FnG P w K mg base (L2.CX P w) (k + 1) f fd ps (spM c ps.length (fnM N.length body)) := by
  refine fnG F S (fun vs H Q E h => h.1) (fun cdv A outer s H vs Q E hr h => ?_)
  refine ⟨_, hb cdv A outer s H E hr, ?_⟩
  obtain ⟨hl, ι, β, mh, ms, rel, rv, p⟩ := h
  refine ⟨ι, β, mh, _, rel, RepL.start (N.length - vs.length) rv, ?_⟩
  unfold fnM at p
  rw [show ms.length = vs.length from rv.length] at p
  cases e : body (ms.map some ++ List.replicate (N.length - vs.length) none) mh with
  | nx σ h' => simp only [e] at p; exact fun ι' H' σ' f rel' rl' => p ι' H' .non f rel' (rnon _ _ _)
  | rt v h' => simp only [e] at p; exact p
  | ex x σ h' => simp only [e] at p; exact fun ι' H' cls d σ' f rel' rl' rx => p ι' H' cls d f rel' rx
  | bk σ h' => simp only [e] at p; exact p.elim
  | ct σ h' => simp only [e] at p; exact p.elim
  | bad => simp only [e] at p; exact p.elim
end

/-! ### calls -/
def cN (n : Nat) (m : List MV → MH → R MV) (as : List MV) (h : MH) : R MV := if as.length = n then m as h else .bad
def cF (n : Nat) (m : List MV → MH → R MV) (as : List MV) (h : MH) : R MV := if as.length = n then bindR (m as h) (gcF h) else .bad
def cR (n : Nat) (m : List MV → MH → R MV) (as : List MV) (h : MH) : R MV := if as.length = n then bindR (m as h) (gcR h) else .bad
/-- a way to call -/
def Way (c : C) (g : Nat → (List MV → MH → R MV) → List MV → MH → R MV) : Prop := ∀ (n : Nat) m ι β H mh as xs Q W, Rel c ι β H mh → RepVs c.K ι β H as xs → Post c ι β H (RV c) Q W (g n m as mh) → as.length = n ∧ Post c ι β H (RV c) Q W (m as mh)
theorem way_N {c : C} : Way c cN := fun n m ι β H mh as xs Q W rel rv p => by
  unfold cN at p
  split at p
  · exact ⟨by assumption, p⟩
  · exact p.elim
theorem way_F {c : C} : Way c cF := fun n m ι β H mh as xs Q W rel rv p => by
  unfold cF at p
  split at p
  · refine ⟨by assumption, ?_⟩
    cases e : m as mh with
    | ok v h' => rw [e] at p; exact gcF_of rel p
    | ex x h' => rw [e] at p; exact p
    | bad => rw [e] at p; exact p
  · exact p.elim
theorem way_R {c : C} : Way c cR := fun n m ι β H mh as xs Q W rel rv p => by
  unfold cR at p
  split at p
  · refine ⟨by assumption, ?_⟩
    cases e : m as mh with
    | ok v h' => rw [e] at p; exact gcR_of rel p
    | ex x h' => rw [e] at p; exact p
    | bad => rw [e] at p; exact p
  · exact p.elim
section
variable {X : Cx} {c : C} {W : WX} {k n : Nat} {f : Addr} {fd : FuncData} {ps : List Str} {m : List MV → MH → R MV} {g : Nat → (List MV → MH → R MV) → List MV → MH → R MV} {x : Str} {p pos : Pos} {e : Expr} {es : List Expr} {rs : AM}
theorem e_call (hg : Way c g) (F : FnG X.prog X.w X.K X.mg X.base (L2.CX X.prog X.w) k f fd ps (spM c n m)) (hr : RoomG k X.A) (hgl : Gl X x) (hm : X.mg x = some (.ref f)) (hk : PySem.W.keepIn X.K (.ref f) = true) (hb : Binds X.K fd ps []) (tk : Takes X W)
    (ha : PA X (e :: es) (tA c W rs)) (hdb : (x == ("__debug__" : Str)) = false := by decide) (he : starEach (e :: es) X.env = (false, eval e X.env) :: starEach es X.env := by rfl) (hpl : (backTo pos (starEach es X.env)).any (·.1) = false := by rfl) :
    PE X (.Call (.Name x p) (e :: es) [] pos) (tE c W (mN (g n m) rs)) := by
  refine (pe_G F hr hgl hm hk hb (passAt tk) ha hdb he hpl).wk fun σ H Q h => ?_
  obtain ⟨ι, β, mh, σm, rel, rl, p⟩ := h
  refine (run1 rel rl p).mono fun xs H1 ⟨ι1, mh1, as, f1, rel1, rl1, ra1, p1⟩ => ?_
  obtain ⟨hl, p2⟩ := hg n m ι1 β H1 mh1 as xs _ _ rel1 ra1 p1
  exact ⟨by rw [← ra1.length]; exact hl, ι1, β, mh1, as, rel1, ra1, p2⟩
theorem e_call0 (hg : Way c g) (F : FnG X.prog X.w X.K X.mg X.base (L2.CX X.prog X.w) k f fd ps (spM c n m)) (hr : RoomG k X.A) (hgl : Gl X x) (hm : X.mg x = some (.ref f)) (hk : PySem.W.keepIn X.K (.ref f) = true) (hb : Binds X.K fd ps []) (tk : Takes X W)
    (hdb : (x == ("__debug__" : Str)) = false := by decide) :
    PE X (.Call (.Name x p) [] [] pos) (tE c W (mN (g n m) mNil)) := by
  refine (pe_G0 F hr hgl hm hk hb (passAt tk) hdb).wk fun σ H Q h => ?_
  obtain ⟨ι, β, mh, σm, rel, rl, p⟩ := h
  obtain ⟨hl, p2⟩ := hg n m ι β H mh [] [] _ _ rel .nil p
  exact ⟨by simpa using hl, ι, β, mh, [], rel, .nil, p2⟩
/-! keywords alone -/
theorem k_nil : PK X [] (tA c W mNil) := ⟨fun pos pins s σ H Q I ⟨ι, β, mh, σm, rel, rl, p⟩ => pk_nil.run pos pins s σ H Q I (p ι H [] .refl rel .nil)⟩
theorem k_cons {kws : List Keyword} {nm : Option Str} {kpos : Pos} {ra : EM} (ha : PE X e (tE c W ra)) (hr : PK X kws (tA c W rs)) : PK X (⟨nm, e, kpos⟩ :: kws) (tA c W (mCons ra rs)) :=
  ⟨fun pos pins s σ H Q I h => (pk_cons ha hr).run pos pins s σ H Q I (a_cons' (e := e) (es := []) h)⟩
theorem e_callK0 {ks : List Str} {kws : List Keyword} {gg : List Value → List Value → List Value} {gV : List V → List V → List V} (gM : List MV → List MV) (hg : Way c g) (F : FnG X.prog X.w X.K X.mg X.base (L2.CX X.prog X.w) k f fd ps (spM c n m)) (hr : RoomG k X.A) (hgl : Gl X x) (hm : X.mg x = some (.ref f)) (hk : PySem.W.keepIn X.K (.ref f) = true) (hb : KBinds X.K fd ps ks gg gV)
    (hM : ∀ ι β H ms vs, RepVs c.K ι β H ms vs → RepVs c.K ι β H (gM ms) (gV [] vs)) (tk : Takes X W)
    (hkw : PK X kws (tA c W rs)) (hall : (backToKw pos (keywordEach kws X.env)).all (·.1.isSome) = true := by rfl) (hks : (backToKw pos (keywordEach kws X.env)).filterMap (·.1) = ks := by rfl)
    (hdb : (x == ("__debug__" : Str)) = false := by decide) (hpl : ((backTo pos (starEach [] X.env)).any (·.1) || (backToKw pos (keywordEach kws X.env)).any (·.1.isNone)) = false := by rfl) :
    PE X (.Call (.Name x p) [] kws pos) (tE c W (mN (fun as h => g n m (gM as) h) rs)) := by
  refine (pe_GK F hr hgl hm hk hb (passAt tk) hkw hall hks hdb hpl).wk fun σ H Q h => ?_
  obtain ⟨ι, β, mh, σm, rel, rl, p⟩ := h
  refine (run1 rel rl p).mono fun xs H1 ⟨ι1, mh1, as, f1, rel1, rl1, ra1, p1⟩ => ?_
  have rM := hM _ _ _ _ _ ra1
  obtain ⟨hl, p2⟩ := hg n m ι1 β H1 mh1 (gM as) _ _ _ rel1 rM p1
  exact ⟨by rw [← rM.length]; exact hl, ι1, β, mh1, gM as, rel1, rM, p2⟩
end

/-! ### loops -/
def forGo (chk : MH → Bool) (g : GM) (body : SM) : List MV → SM
  | [], σ, h => if chk h = true then .nx σ h else .bad
  | x :: xs, σ, h => if chk h = true then match g x σ h with
      | .ok σ1 h1 => match body σ1 h1 with
        | .nx σ2 h2 => forGo chk g body xs σ2 h2
        | .ct σ2 h2 => forGo chk g body xs σ2 h2
        | .bk σ2 h2 => .nx σ2 h2
        | .rt v h2 => .rt v h2
        | .ex e σ2 h2 => .ex e σ2 h2
        | .bad => .bad
      | _ => .bad
    else .bad
structure Src (c : C) (J : It) (items : List MV) (chk : MH → Bool) (inv : List Addr → List Addr → Hp → Prop) : Prop where
  mono : ∀ ι β H ι' H', Fr ι H ι' H' → inv ι β H → inv ι' β H'
  go : ∀ ι β H mh (i : Nat) m, Rel c ι β H mh → inv ι β H → chk mh = true → items[i]? = some m → J.go i H ∧ ∀ x H', J.yld i H x H' → Fr ι H ι H' ∧ Rel c ι β H' mh ∧ RepV c.K ι β H' m x
  stop : ∀ ι β H mh, Rel c ι β H mh → inv ι β H → chk mh = true → J.stop items.length H
  ban : ∀ ι β H D o, inv ι β H → H D = none → inv ι (D :: β) (upd H D o)
  turn : ∀ ι β H D o, inv ι (D :: β) H → inv ι (D :: β) (upd H D o)
theorem for_of {c : C} {J : It} {items : List MV} {chk : MH → Bool} {inv : List Addr → List Addr → Hp → Prop} {ι β : List Addr} {H : Hp} {mh : MH} {σm : Lo} {σ : St} {D : Ends} {W : WX} {g : GM} {body : SM}
    (S : Src c J items chk inv) (rel : Rel c ι β H mh) (rl : RepL c.K ι β H σm σ) (hi : inv ι β H) (p : PostS c ι β H D W (forGo chk g body items σm mh)) :
    ∃ W' : Nat → Nat → St → Hp → Prop, (∃ m, W' 0 m σ H) ∧ ∀ i m σ H, W' i m σ H →
      (J.stop i H ∧ D.nx σ H) ∨ (J.go i H ∧ ∃ N : St → Hp → Prop, (∀ σ' H', N σ' H' → ∃ m', m' < m ∧ W' (i + 1) m' σ' H') ∧ ∀ x H', J.yld i H x H' → tG c g x σ H' fun σ2 H2 => tS c W body { D with nx := N, ct := N, bk := D.nx } σ2 H2) := by
  refine ⟨fun i m σ H => m = items.length - i ∧ i ≤ items.length ∧ ∃ ι β mh σm, Rel c ι β H mh ∧ RepL c.K ι β H σm σ ∧ inv ι β H ∧ PostS c ι β H D W (forGo chk g body (items.drop i) σm mh),
    ⟨items.length, by simp, Nat.zero_le _, ι, β, mh, σm, rel, rl, hi, by simpa using p⟩, ?_⟩
  rintro i m σ H ⟨rfl, hle, ι, β, mh, σm, rel, rl, hi, p⟩
  by_cases hlt : i < items.length
  · rw [List.drop_eq_getElem_cons hlt] at p
    unfold forGo at p
    split at p
    · rename_i hc
      obtain ⟨go, yl⟩ := S.go ι β H mh i items[i] rel hi hc (List.getElem?_eq_getElem hlt)
      refine .inr ⟨go, fun σ' H' => ∃ ι β mh σm, Rel c ι β H' mh ∧ RepL c.K ι β H' σm σ' ∧ inv ι β H' ∧ PostS c ι β H' D W (forGo chk g body (items.drop (i + 1)) σm mh), fun σ' H' hN => ⟨items.length - (i + 1), by omega, rfl, hlt, hN⟩, fun x H' hy => ?_⟩
      obtain ⟨f1, rel1, rx⟩ := yl x H' hy
      refine ⟨ι, β, mh, σm, items[i], rel1, rl.mono f1, rx, ?_⟩
      cases e : g items[i] σm mh with
      | ok σ1 h1 =>
        simp only [e] at p
        intro ι2 H2 σ2 f2 rel2 rl2
        refine ⟨ι2, β, h1, σ1, rel2, rl2, ?_⟩
        have f12 := f1.trans f2
        cases e2 : body σ1 h1 with
        | nx σ3 h3 => simp only [e2] at p; exact fun ι3 H3 σ' f3 rel3 rl3 => ⟨ι3, β, h3, σ3, rel3, rl3, S.mono _ _ _ _ _ (f12.trans f3) hi, PostS.fr (f12.trans f3) p⟩
        | ct σ3 h3 => simp only [e2] at p; exact fun ι3 H3 σ' f3 rel3 rl3 => ⟨ι3, β, h3, σ3, rel3, rl3, S.mono _ _ _ _ _ (f12.trans f3) hi, PostS.fr (f12.trans f3) p⟩
        | bk σ3 h3 => simp only [e2] at p; exact fun ι3 H3 σ' f3 rel3 rl3 => p ι3 H3 σ' (f12.trans f3) rel3 rl3
        | rt v h3 => simp only [e2] at p; exact fun ι3 H3 u f3 rel3 rl3 => p ι3 H3 u (f12.trans f3) rel3 rl3
        | ex x σ3 h3 => simp only [e2] at p; exact fun ι3 H3 cls d σ' f3 rel3 rl3 rx => p ι3 H3 cls d σ' (f12.trans f3) rel3 rl3 rx
        | bad => simp only [e2] at p; exact p
      | ex a b => simp only [e] at p; exact p
      | bad => simp only [e] at p; exact p
    · exact p.elim
  · have e : i = items.length := by omega
    subst e
    rw [List.drop_length] at p
    unfold forGo at p
    split at p
    · rename_i hc
      exact .inl ⟨S.stop ι β H mh rel hi hc, p ι H σ .refl rel rl⟩
    · exact p.elim

/-! what is walked -/
def itL (v : MV) (h : MH) : Option (List MV × (MH → Bool)) := match v with
  | .lv l => some (l, fun _ => true)
  | .fz l => some (l, fun _ => true)
  | .ref n => match h[n]? with
    | some (.lst l) => some (l, fun h' => match h'[n]? with
      | some (.lst l') => beqVs l' l
      | _ => false)
    | _ => none
  | _ => none
section
variable {c : C}
theorem src_list {v : MV} {h : MH} {l : List MV} {chk : MH → Bool} {ι β : List Addr} {H : Hp} {x : V} (e : itL v h = some (l, chk)) (rel : Rel c ι β H h) (rv : RepV c.K ι β H v x) :
    ∃ a, x = .ref a ∧ (∃ xs, SqL c.K H a xs) ∧ ∃ inv, Src c (Itl c.K a) l chk inv ∧ inv ι β H := by
  cases v with
  | lv l' =>
    simp only [itL, Option.some.injEq, Prod.mk.injEq] at e
    obtain ⟨rfl, rfl⟩ := e
    unfold RepV at rv
    obtain ⟨a, vs, rfl, ⟨q, na, nb⟩, r⟩ := rv
    refine ⟨a, rfl, ⟨vs, .inl (.inl q)⟩, fun ι β H => H a = some (.lst vs) ∧ a ∉ ι ∧ a ∉ β ∧ RepVs c.K ι β H l' vs, ⟨?_, ?_, ?_, ?_, ?_⟩, q, na, nb, r⟩
    · rintro ι β H ι' H' f ⟨q, na, nb, r⟩
      obtain ⟨o, e, w⟩ := f.keep a _ q na
      exact ⟨by rw [e, w.lst], f.out q na, nb, r.mono f⟩
    · rintro ι β H mh i m rel ⟨q, na, nb, r⟩ _ hm
      obtain ⟨v, ev, rv⟩ := r.get hm
      refine ⟨⟨vs, v, .inl (.inl q), ev⟩, fun x H' hy => ?_⟩
      obtain ⟨rfl, hy⟩ := hy
      have := hy vs (.inl (.inl q))
      rw [ev] at this; cases this
      exact ⟨.refl, rel, rv⟩
    · rintro ι β H mh rel ⟨q, na, nb, r⟩ _
      exact ⟨vs, .inl (.inl q), by rw [← r.length]; exact Nat.le_refl _⟩
    · rintro ι β H D o ⟨q, na, nb, r⟩ hD
      exact ⟨by rw [upd_ne (ne_of_none q hD)]; exact q, na, fun z => (List.mem_cons.mp z).elim (ne_of_none q hD) nb, r.move (Mov.ban hD)⟩
    · rintro ι β H D o ⟨q, na, nb, r⟩
      exact ⟨by rw [upd_ne (fun z => nb (by rw [z]; exact List.mem_cons_self))]; exact q, na, nb, r.move Mov.turn⟩
  | fz l' =>
    simp only [itL, Option.some.injEq, Prod.mk.injEq] at e
    obtain ⟨rfl, rfl⟩ := e
    unfold RepV at rv
    obtain ⟨a, vs, rfl, q, r⟩ := rv
    have sq : ∀ (ι β : List Addr) (H : Hp), ((∃ o, H a = some (.frz o (.lst vs))) ∧ a ∉ ι ∧ a ∉ β ∨ KL c.K a vs) → SqL c.K H a vs := fun ι β H q => by
      rcases q with ⟨⟨o, q⟩, _⟩ | q
      · exact .inl (.inr ⟨o, q⟩)
      · exact .inr q
    refine ⟨a, rfl, ⟨vs, sq _ _ _ q⟩, fun ι β H => ((∃ o, H a = some (.frz o (.lst vs))) ∧ a ∉ ι ∧ a ∉ β ∨ KL c.K a vs) ∧ RepVs c.K ι β H l' vs, ⟨?_, ?_, ?_, ?_, ?_⟩, q, r⟩
    · rintro ι β H ι' H' f ⟨q, r⟩
      refine ⟨?_, r.mono f⟩
      rcases q with ⟨⟨o, q⟩, na, nb⟩ | q
      · exact .inl ⟨⟨o, f.frz _ _ _ q⟩, f.out q na, nb⟩
      · exact .inr q
    · rintro ι β H mh i m rel ⟨q, r⟩ _ hm
      obtain ⟨v, ev, rv⟩ := r.get hm
      refine ⟨⟨vs, v, sq _ _ _ q, ev⟩, fun x H' hy => ?_⟩
      obtain ⟨rfl, hy⟩ := hy
      have := hy vs (sq _ _ _ q)
      rw [ev] at this; cases this
      exact ⟨.refl, rel, rv⟩
    · rintro ι β H mh rel ⟨q, r⟩ _
      exact ⟨vs, sq _ _ _ q, by rw [← r.length]; exact Nat.le_refl _⟩
    · rintro ι β H D o ⟨q, r⟩ hD
      refine ⟨?_, r.move (Mov.ban hD)⟩
      rcases q with ⟨⟨o', q⟩, na, nb⟩ | q
      · exact .inl ⟨⟨o', by rw [upd_ne (ne_of_none q hD)]; exact q⟩, na, fun z => (List.mem_cons.mp z).elim (ne_of_none q hD) nb⟩
      · exact .inr q
    · rintro ι β H D o ⟨q, r⟩
      refine ⟨?_, r.move Mov.turn⟩
      rcases q with ⟨⟨o', q⟩, na, nb⟩ | q
      · exact .inl ⟨⟨o', by rw [upd_ne (fun z => nb (by rw [z]; exact List.mem_cons_self))]; exact q⟩, na, nb⟩
      · exact .inr q
  | ref n =>
    unfold itL at e
    simp only at e
    cases eo : h[n]? with
    | none => simp only [eo] at e; cases e
    | some o =>
      cases o with
      | lst l' =>
        simp only [eo, Option.some.injEq, Prod.mk.injEq] at e
        obtain ⟨rfl, rfl⟩ := e
        unfold RepV at rv
        obtain ⟨a, rfl, ea⟩ := rv
        have key : ∀ ι β H mh, Rel c ι β H mh → ι[n]? = some a → (match mh[n]? with | some (.lst l2) => beqVs l2 l' | _ => false) = true → ∃ vs, H a = some (.lst vs) ∧ RepVs c.K ι β H l' vs := by
          intro ι β H mh rel ea hc
          obtain ⟨o, e1, ro⟩ := rel.at ea
          rw [e1] at hc
          cases o with
          | lst l2 =>
            have := beqVs_eq hc
            subst this
            exact ro
          | dct _ => cases hc
          | fdc _ => cases hc
          | ins _ _ => cases hc
        refine ⟨a, rfl, ?_, fun ι β H => ι[n]? = some a, ⟨?_, ?_, ?_, fun _ _ _ _ _ z _ => z, fun _ _ _ _ _ z => z⟩, ea⟩
        · obtain ⟨vs, q, _⟩ := key ι β H h rel ea (by rw [eo]; simp)
          exact ⟨vs, .inl (.inl q)⟩
        · intro ι β H ι' H' f q
          exact f.get q
        · intro ι β H mh i m rel ea hc hm
          obtain ⟨vs, q, r⟩ := key ι β H mh rel ea hc
          obtain ⟨v, ev, rv⟩ := r.get hm
          refine ⟨⟨vs, v, .inl (.inl q), ev⟩, fun x H' hy => ?_⟩
          obtain ⟨rfl, hy⟩ := hy
          have := hy vs (.inl (.inl q))
          rw [ev] at this; cases this
          exact ⟨.refl, rel, rv⟩
        · intro ι β H mh rel ea hc
          obtain ⟨vs, q, r⟩ := key ι β H mh rel ea hc
          exact ⟨vs, .inl (.inl q), by rw [← r.length]; exact Nat.le_refl _⟩
      | dct _ => simp only [eo] at e; cases e
      | fdc _ => simp only [eo] at e; cases e
      | ins _ _ => simp only [eo] at e; cases e
  | _ => cases e
theorem src_tup {l : List MV} {ι β : List Addr} {H : Hp} {x : V} (rv : RepV c.K ι β H (.tup l) x) :
    ∃ a, x = .ref a ∧ (∃ xs, SqT c.K H a xs) ∧ ∃ inv, Src c (Itt c.K a) l (fun _ => true) inv ∧ inv ι β H := by
  unfold RepV at rv
  obtain ⟨a, vs, rfl, q, r⟩ := rv
  have sq : ∀ (ι β : List Addr) (H : Hp), (H a = some (.tup vs) ∧ a ∉ ι ∧ a ∉ β ∨ KT c.K a vs) → SqT c.K H a vs := fun ι β H q => by
    rcases q with ⟨q, _⟩ | q
    · exact .inl (.inl q)
    · exact .inr q
  refine ⟨a, rfl, ⟨vs, sq _ _ _ q⟩, fun ι β H => (H a = some (.tup vs) ∧ a ∉ ι ∧ a ∉ β ∨ KT c.K a vs) ∧ RepVs c.K ι β H l vs, ⟨?_, ?_, ?_, ?_, ?_⟩, q, r⟩
  · rintro ι β H ι' H' f ⟨q, r⟩
    refine ⟨?_, r.mono f⟩
    rcases q with ⟨q, na, nb⟩ | q
    · obtain ⟨o, e, w⟩ := f.keep a _ q na
      exact .inl ⟨by rw [e, w.tup], f.out q na, nb⟩
    · exact .inr q
  · rintro ι β H mh i m rel ⟨q, r⟩ _ hm
    obtain ⟨v, ev, rv⟩ := r.get hm
    refine ⟨⟨vs, v, sq _ _ _ q, ev⟩, fun x H' hy => ?_⟩
    obtain ⟨rfl, hy⟩ := hy
    have := hy vs (sq _ _ _ q)
    rw [ev] at this; cases this
    exact ⟨.refl, rel, rv⟩
  · rintro ι β H mh rel ⟨q, r⟩ _
    exact ⟨vs, sq _ _ _ q, by rw [← r.length]; exact Nat.le_refl _⟩
  · rintro ι β H D o ⟨q, r⟩ hD
    refine ⟨?_, r.move (Mov.ban hD)⟩
    rcases q with ⟨q, na, nb⟩ | q
    · exact .inl ⟨by rw [upd_ne (ne_of_none q hD)]; exact q, na, fun z => (List.mem_cons.mp z).elim (ne_of_none q hD) nb⟩
    · exact .inr q
  · rintro ι β H D o ⟨q, r⟩
    refine ⟨?_, r.move Mov.turn⟩
    rcases q with ⟨q, na, nb⟩ | q
    · exact .inl ⟨by rw [upd_ne (fun z => nb (by rw [z]; exact List.mem_cons_self))]; exact q, na, nb⟩
    · exact .inr q
/-- a, a + c, .. (n of them) -/
def rgM (lo d : Int) (n : Nat) : List MV := (List.range n).map fun i => MV.int (lo + (i : Nat) * d)
theorem src_rangeC {lo d : Int} {n : Nat} : Src c (Itc lo d n) (rgM lo d n) (fun _ => true) (fun _ _ _ => True) := by
  refine ⟨fun _ _ _ _ _ _ _ => trivial, fun ι β H mh i m rel _ _ hm => ?_, fun ι β H mh rel _ _ => by show n ≤ _; simp [rgM], fun _ _ _ _ _ _ _ => trivial, fun _ _ _ _ _ _ => trivial⟩
  unfold rgM at hm
  rw [List.getElem?_map] at hm
  cases e : (List.range n)[i]? with
  | none => rw [e] at hm; cases hm
  | some j =>
    rw [e] at hm
    simp only [Option.map_some, Option.some.injEq] at hm
    subst hm
    obtain ⟨hj, ej⟩ := List.getElem?_eq_some_iff.mp e
    rw [List.length_range] at hj
    rw [List.getElem_range] at ej
    subst ej
    refine ⟨hj, fun x H' hy => ?_⟩
    obtain ⟨rfl, rfl⟩ := hy
    exact ⟨.refl, rel, rint _ _ _⟩
theorem src_range {lo : Int} {n : Nat} : Src c (Itr lo n) (rgM lo 1 n) (fun _ => true) (fun _ _ _ => True) := by
  refine ⟨fun _ _ _ _ _ _ _ => trivial, fun ι β H mh i m rel _ _ hm => ?_, fun ι β H mh rel _ _ => by show n ≤ _; simp [rgM], fun _ _ _ _ _ _ _ => trivial, fun _ _ _ _ _ _ => trivial⟩
  obtain ⟨go, yl⟩ := (src_rangeC (lo := lo) (d := 1) (n := n)).go ι β H mh i m rel trivial rfl hm
  refine ⟨go, fun x H' hy => yl x H' ?_⟩
  obtain ⟨rfl, rfl⟩ := hy
  exact ⟨rfl, by rw [Int.mul_one]⟩
end

/-! a walked expression, as a mirror term: items, check -/
abbrev IM := Lo → MH → R (List MV × (MH → Bool))
/-- the walk's start: as a reading -/
def tI (c : C) (W : WX) (r : IM) : TI := fun σ H R => ∃ ι β mh σm, Rel c ι β H mh ∧ RepL c.K ι β H σm σ ∧
  match r σm mh with
  | .ok (l, chk) h1 => ∀ ι' H' J inv, Fr ι H ι' H' → Rel c ι' β H' h1 → Src c J l chk inv → inv ι' β H' → R J H'
  | .ex e h1 => ∀ ι' H' cls d, Fr ι H ι' H' → Rel c ι' β H' h1 → RepX c ι' β H' e cls d → W cls d σ H'
  | .bad => False
section
variable {X : Cx} {c : C} {W : WX} {tg e : Expr} {re : EM} {rs : AM} {pos p : Pos}
theorem _root_.L2.PI.wk {iter : Expr} {w w' : TI} (h : PI X tg iter w) (q : ∀ σ H R, w' σ H R → w σ H R) : PI X tg iter w' := ⟨fun pins s σ H R I r => h.run pins s σ H R I (q σ H R r)⟩
@[simp] def iL (re : EM) : IM := fun σ h => bindR (re σ h) fun v h1 => match itL v h1 with
  | some r => .ok r h1
  | none => .bad
theorem runI {α δ : Type} {Rp : List Addr → List Addr → Hp → α → δ → Prop} {ra : Lo → MH → R α} {k : α → MH → R (List MV × (MH → Bool))} {σ : St} {H : Hp} {Q : It → Hp → Prop} (h : tI c W (fun σ h => bindR (ra σ h) k) σ H Q) :
    tR c W Rp ra σ H (fun b H1 => ∃ ι1 β mh1 σm a, Rel c ι1 β H1 mh1 ∧ RepL c.K ι1 β H1 σm σ ∧ Rp ι1 β H1 a b ∧ match k a mh1 with
      | .ok (l, chk) h1 => ∀ ι' H' J inv, Fr ι1 H1 ι' H' → Rel c ι' β H' h1 → Src c J l chk inv → inv ι' β H' → Q J H'
      | .ex e h1 => ∀ ι' H' cls d, Fr ι1 H1 ι' H' → Rel c ι' β H' h1 → RepX c ι' β H' e cls d → W cls d σ H'
      | .bad => False) := by
  obtain ⟨ι, β, mh, σm, rel, rl, p⟩ := h
  refine ⟨ι, β, mh, σm, rel, rl, ?_⟩
  dsimp only at p
  cases e : ra σm mh with
  | ok a h' =>
    rw [e] at p
    intro ι' H' b f r q
    refine ⟨ι', β, h', σm, a, r, rl.mono f, q, ?_⟩
    simp only [bindR] at p
    cases e2 : k a h' with
    | ok lc h1 =>
      obtain ⟨l, chk⟩ := lc
      simp only [e2] at p ⊢
      exact fun ι2 H2 J inv f2 => p ι2 H2 J inv (f.trans f2)
    | ex x h1 => simp only [e2] at p ⊢; exact fun ι2 H2 cls d f2 => p ι2 H2 cls d (f.trans f2)
    | bad => simp only [e2] at p
  | ex x h' => rw [e] at p; exact p
  | bad => rw [e] at p; exact p
theorem i_list (hK : X.K = c.K) (he : PE X e (tE c W re)) : PI X tg e (tI c W (iL re)) :=
  (pi_list he).wk fun σ H R h => by
    refine (runI (Rp := RV c) h).mono fun x H1 ⟨ι1, β, mh1, σm, v, rel, rl, rv, p⟩ => ?_
    cases ei : itL v mh1 with
    | none => simp only [ei] at p
    | some lc =>
      obtain ⟨l, chk⟩ := lc
      simp only [ei] at p
      obtain ⟨a, rfl, sq, inv, S, hi⟩ := src_list ei rel rv
      rw [hK]
      exact ⟨a, rfl, sq, p ι1 H1 _ inv .refl rel S hi⟩
@[simp] def itT (v : MV) (h : MH) : R (List MV × (MH → Bool)) := match v with
  | .tup l => .ok (l, fun _ => true) h
  | _ => .bad
@[simp] def iT (re : EM) : IM := fun σ h => bindR (re σ h) itT
theorem i_tup (hK : X.K = c.K) (he : PE X e (tE c W re)) : PI X tg e (tI c W (iT re)) :=
  (pi_tup he).wk fun σ H R h => by
    refine (runI (Rp := RV c) h).mono fun x H1 ⟨ι1, β, mh1, σm, v, rel, rl, rv, p⟩ => ?_
    cases v with
    | tup l =>
      obtain ⟨a, rfl, sq, inv, S, hi⟩ := src_tup rv
      rw [hK]
      exact ⟨a, rfl, sq, p ι1 H1 _ inv .refl rel S hi⟩
    | _ => exact p.elim
def B62 : Int := 4611686018427387904
def inB (i : Int) : Bool := decide (-B62 ≤ i) && decide (i < B62)
theorem inB_iff {i : Int} (h : inB i = true) : -(2 ^ 62) ≤ i ∧ i < 2 ^ 62 := by
  unfold inB at h
  simp only [Bool.and_eq_true, decide_eq_true_eq] at h
  exact h
@[simp] def itR1 (as : List MV) (h : MH) : R (List MV × (MH → Bool)) := match as with
  | [.int j] => if inB j = true then .ok (rgM 0 1 j.toNat, fun _ => true) h else .bad
  | _ => .bad
@[simp] def itR2 (as : List MV) (h : MH) : R (List MV × (MH → Bool)) := match as with
  | [.int i, .int j] => if (inB i && inB j) = true then .ok (rgM i 1 (j - i).toNat, fun _ => true) h else .bad
  | _ => .bad
/-- steps upward -/
@[simp] def itR3 (as : List MV) (h : MH) : R (List MV × (MH → Bool)) := match as with
  | [.int i, .int j, .int d] => if (inB i && inB j && decide (0 < d) && decide (d < 1000000)) = true then .ok (rgM i d (Builtin.Range.rangeSize i j d).toNat, fun _ => true) h else .bad
  | _ => .bad
theorem Vs1 {K : PySem.W.Frag} {ι β : List Addr} {H : Hp} {m : MV} {vs : List V} (h : RepVs K ι β H [m] vs) : ∃ v, vs = [v] ∧ RepV K ι β H m v := by
  obtain ⟨v, r, rfl, q, t⟩ := h.cons_iff
  rw [t.nil_iff]; exact ⟨v, rfl, q⟩
theorem Vs2 {K : PySem.W.Frag} {ι β : List Addr} {H : Hp} {m m' : MV} {vs : List V} (h : RepVs K ι β H [m, m'] vs) : ∃ v v', vs = [v, v'] ∧ RepV K ι β H m v ∧ RepV K ι β H m' v' := by
  obtain ⟨v, r, rfl, q, t⟩ := h.cons_iff
  obtain ⟨v', rfl, q'⟩ := Vs1 t
  exact ⟨v, v', rfl, q, q'⟩
theorem Vs3 {K : PySem.W.Frag} {ι β : List Addr} {H : Hp} {m m' m2 : MV} {vs : List V} (h : RepVs K ι β H [m, m', m2] vs) : ∃ v v' v2, vs = [v, v', v2] ∧ RepV K ι β H m v ∧ RepV K ι β H m' v' ∧ RepV K ι β H m2 v2 := by
  obtain ⟨v, r, rfl, q, t⟩ := h.cons_iff
  obtain ⟨v', v2, rfl, q', q2⟩ := Vs2 t
  exact ⟨v, v', v2, rfl, q, q', q2⟩
theorem ri {K : PySem.W.Frag} {ι β : List Addr} {H : Hp} {i : Int} {v : V} (h : RepV K ι β H (.int i) v) : v = .int i := by unfold RepV at h; exact h
theorem itR1_ok {as : List MV} {h h1 : MH} {r : List MV × (MH → Bool)} (e : itR1 as h = .ok r h1) : ∃ j, as = [.int j] ∧ inB j = true ∧ r = (rgM 0 1 j.toNat, fun _ => true) ∧ h1 = h := by
  unfold itR1 at e
  split at e
  · split at e
    · cases e; exact ⟨_, rfl, by assumption, rfl, rfl⟩
    · cases e
  · cases e
theorem itR1_nex {as : List MV} {h h1 : MH} {x : MX} : itR1 as h ≠ .ex x h1 := fun e => by
  unfold itR1 at e
  split at e
  · split at e <;> cases e
  · cases e
theorem itR2_ok {as : List MV} {h h1 : MH} {r : List MV × (MH → Bool)} (e : itR2 as h = .ok r h1) : ∃ i j, as = [.int i, .int j] ∧ inB i = true ∧ inB j = true ∧ r = (rgM i 1 (j - i).toNat, fun _ => true) ∧ h1 = h := by
  unfold itR2 at e
  split at e
  · split at e
    · rename_i hb
      rw [Bool.and_eq_true] at hb
      cases e; exact ⟨_, _, rfl, hb.1, hb.2, rfl, rfl⟩
    · cases e
  · cases e
theorem itR2_nex {as : List MV} {h h1 : MH} {x : MX} : itR2 as h ≠ .ex x h1 := fun e => by
  unfold itR2 at e
  split at e
  · split at e <;> cases e
  · cases e
theorem itR3_ok {as : List MV} {h h1 : MH} {r : List MV × (MH → Bool)} (e : itR3 as h = .ok r h1) : ∃ i j d, as = [.int i, .int j, .int d] ∧ inB i = true ∧ inB j = true ∧ 0 < d ∧ d < 1000000 ∧ r = (rgM i d (Builtin.Range.rangeSize i j d).toNat, fun _ => true) ∧ h1 = h := by
  unfold itR3 at e
  split at e
  · split at e
    · rename_i hb
      simp only [Bool.and_eq_true, decide_eq_true_eq] at hb
      cases e; exact ⟨_, _, _, rfl, hb.1.1.1, hb.1.1.2, hb.1.2, hb.2, rfl, rfl⟩
    · cases e
  · cases e
theorem itR3_nex {as : List MV} {h h1 : MH} {x : MX} : itR3 as h ≠ .ex x h1 := fun e => by
  unfold itR3 at e
  split at e
  · split at e <;> cases e
  · cases e
theorem i_range1 {a : Expr} (hg : Gl X "range") (hm : X.mg "range" = none) (ha : PA X [a] (tA c W rs)) (hs : starEach [a] X.env = [(false, eval a X.env)] := by rfl) : PI X tg (.Call (.Name "range" p) [a] [] pos) (tI c W (fun σ h => bindR (rs σ h) itR1)) :=
  (pi_range1 hg hm ha hs).wk fun σ H R h => by
    refine (runI (Rp := RVs c) h).mono fun xs H1 ⟨ι1, β, mh1, σm, as, rel, rl, rv, p⟩ => ?_
    cases e : itR1 as mh1 with
    | ok r h1 =>
      obtain ⟨j, rfl, hb, rfl, rfl⟩ := itR1_ok e
      simp only [e] at p
      obtain ⟨v, rfl, q⟩ := Vs1 rv
      obtain ⟨h1, h2⟩ := inB_iff hb
      exact ⟨j, by rw [ri q], h1, h2, p ι1 H1 _ _ .refl rel src_range trivial⟩
    | ex x h1 => exact absurd e itR1_nex
    | bad => simp only [e] at p
theorem i_range2 {a b : Expr} (hg : Gl X "range") (hm : X.mg "range" = none) (ha : PA X [a, b] (tA c W rs)) (hs : starEach [a, b] X.env = [(false, eval a X.env), (false, eval b X.env)] := by rfl) (hs2 : starEach [b] X.env = [(false, eval b X.env)] := by rfl) : PI X tg (.Call (.Name "range" p) [a, b] [] pos) (tI c W (fun σ h => bindR (rs σ h) itR2)) :=
  (pi_range2 hg hm ha hs hs2).wk fun σ H R h => by
    refine (runI (Rp := RVs c) h).mono fun xs H1 ⟨ι1, β, mh1, σm, as, rel, rl, rv, p⟩ => ?_
    cases e : itR2 as mh1 with
    | ok r h1 =>
      obtain ⟨i, j, rfl, hb, hb', rfl, rfl⟩ := itR2_ok e
      simp only [e] at p
      obtain ⟨v, v', rfl, q, q'⟩ := Vs2 rv
      obtain ⟨h1, h2⟩ := inB_iff hb
      obtain ⟨h3, h4⟩ := inB_iff hb'
      exact ⟨i, j, by rw [ri q, ri q'], ⟨h1, h2, h3, h4⟩, p ι1 H1 _ _ .refl rel src_range trivial⟩
    | ex x h1 => exact absurd e itR2_nex
    | bad => simp only [e] at p
theorem rgC_of {i j d : Int} (h1 : -(2 ^ 62) ≤ i ∧ i < 2 ^ 62) (h2 : -(2 ^ 62) ≤ j ∧ j < 2 ^ 62) (hd : 0 < d) (hd' : d < 1000000) : RgC i j d (Builtin.Range.rangeSize i j d).toNat := by
  have e : Builtin.Range.rangeSize i j d = if i < j then (j - i - 1) / d + 1 else 0 := by
    unfold Builtin.Range.rangeSize
    rw [if_pos hd]
  have q0 : i < j → 0 ≤ (j - i - 1) / d := fun h => Int.ediv_nonneg (by omega) (by omega)
  have q1 : i < j → (j - i - 1) / d ≤ j - i - 1 := fun h => Int.ediv_le_self _ (by omega)
  have q2 : i < j → (j - i - 1) / d * d ≤ j - i - 1 := fun h => Int.ediv_mul_le _ (by omega)
  refine ⟨by omega, by omega, ?_, ?_⟩
  · unfold Builtin.Range.small
    rw [e]
    simp only [Builtin.Range.rangeFitsLong, Bool.and_eq_true, Bool.or_eq_true, decide_eq_true_eq, beq_iff_eq, gt_iff_lt, hd, if_true]
    split
    · rename_i h
      have a0 := q0 h
      have a1 := q1 h
      have a2 := q2 h
      have a3 : i + ((j - i - 1) / d + 1) * d ≤ j + d := by
        rw [Int.add_mul]; omega
      have a4 : i ≤ i + ((j - i - 1) / d + 1) * d := by
        have : 0 ≤ ((j - i - 1) / d + 1) * d := Int.mul_nonneg (by omega) (by omega)
        omega
      omega
    · omega
  · rw [e]
    split
    · rename_i h
      have a0 := q0 h
      omega
    · omega
theorem i_range3 {a b d : Expr} (hg : Gl X "range") (hm : X.mg "range" = none) (ha : PA X [a, b, d] (tA c W rs)) (hs : starEach [a, b, d] X.env = (false, eval a X.env) :: starEach [b, d] X.env := by rfl) (hpl : (backTo pos (starEach [b, d] X.env)).any (·.1) = false := by rfl) : PI X tg (.Call (.Name "range" p) [a, b, d] [] pos) (tI c W (fun σ h => bindR (rs σ h) itR3)) :=
  (pi_range3 hg hm ha hs hpl).wk fun σ H R h => by
    refine (runI (Rp := RVs c) h).mono fun xs H1 ⟨ι1, β, mh1, σm, as, rel, rl, rv, p⟩ => ?_
    cases e : itR3 as mh1 with
    | ok r h1 =>
      obtain ⟨i, j, d, rfl, hb, hb', hd, hd', rfl, rfl⟩ := itR3_ok e
      simp only [e] at p
      obtain ⟨v, v', v2, rfl, q, q', q2⟩ := Vs3 rv
      exact ⟨i, j, d, _, by rw [ri q, ri q', ri q2], rgC_of (inB_iff hb) (inB_iff hb') hd hd', p ι1 H1 _ _ .refl rel src_rangeC trivial⟩
    | ex x h1 => exact absurd e itR3_nex
    | bad => simp only [e] at p
/-! the loop itself -/
@[simp] def sFor (r : IM) (g : GM) (body : SM) : SM := fun σ h => bindS (r σ h) σ fun lc h1 => forGo lc.2 g body lc.1 σ h1
theorem s_for {iter : Expr} {body : List Stmt} {r : IM} {g : GM} {rb : SM} (hp : PassesOwn (model X.prog X.w) X.A X.env X.xe) (hc : X.calm = true) (hi : PI X tg iter (tI c W r)) (hg : PG X tg (tG c g)) (hb : PSs X body (tS c W rb))
    (hs : ∀ x, foldedSetIterable iter X.env x = pure x := by intro _; rfl) : PS X (.For tg iter body [] pos) (tS c W (sFor r g rb)) :=
  (ps_for hp hc hi hg hb hs).wk fun D σ H ⟨ι, β, mh, σm, rel, rl, p⟩ => by
    refine ⟨ι, β, mh, σm, rel, rl, ?_⟩
    unfold sFor at p
    cases e : r σm mh with
    | ok lc h1 =>
      obtain ⟨l, chk⟩ := lc
      simp only [e, bindS] at p
      exact fun ι' H' J inv f rel' S hi => for_of S rel' (rl.mono f) hi (PostS.fr f p)
    | ex x h1 => simp only [e, bindS] at p; exact fun ι' H' cls d f rel' rx => p ι' H' cls d σ f rel' (rl.mono f) rx
    | bad => simp only [e, bindS] at p; exact p
end
end MP

/-! Mirror layer, part 5: list comprehensions. -/
namespace MP
open PySem PySem.Spec PyProof.Rows L2

/-- what a comprehension's turn is bound to -/
inductive TP where
  | nm (i : Nat)
  | tp (l : List TP)
mutual
def asP : TP → MV → Lo → Option Lo
  | .nm i, m, σ => some (σ.set i (some m))
  | .tp l, m, σ => match m with
    | .tup ms => asPs l ms σ
    | _ => none
def asPs : List TP → List MV → Lo → Option Lo
  | [], [], σ => some σ
  | p :: l, m :: ms, σ => match asP p m σ with
    | some σ1 => asPs l ms σ1
    | none => none
  | _, _, _ => none
end
/-- a target's reading does what the pattern says -/
def RdOk (c : C) (vs : List Nat) (g : TG) (p : TP) : Prop := ∀ ι β H mh m v σm σ σm1 (Q : St → Hp → Prop), Rel c ι β H mh → RepL c.K ι β H σm σ → RepV c.K ι β H m v → asP p m σm = some σm1 →
  (∀ σ', RepL c.K ι β H σm1 σ' → wipe σ' vs = wipe σ vs → Q σ' H) → g v σ H Q
def RdsOk (c : C) (vs : List Nat) (g : TGs) (p : List TP) : Prop := ∀ ι β H mh ms us σm σ σm1 (Q : St → Hp → Prop), Rel c ι β H mh → RepL c.K ι β H σm σ → RepVs c.K ι β H ms us → asPs p ms σm = some σm1 →
  (∀ σ', RepL c.K ι β H σm1 σ' → wipe σ' vs = wipe σ vs → Q σ' H) → g us σ H Q
theorem wipe_set {σ : St} {i : Nat} {v : Option V} : ∀ {vs : List Nat}, i ∈ vs → wipe (σ.set i v) vs = wipe σ vs
  | [], h => by simp at h
  | j :: vs, h => by
    unfold wipe
    by_cases e : j = i
    · subst e
      by_cases h2 : j ∈ vs
      · rw [wipe_set h2]
      · have key : ∀ (ws : List Nat) (τ : St), (wipe (τ.set j v) ws).set j none = (wipe τ ws).set j none := by
          intro ws
          induction ws with
          | nil => intro τ; show (τ.set j v).set j none = τ.set j none; rw [List.set_set]
          | cons k ws ih =>
            intro τ
            unfold wipe
            by_cases e : k = j
            · subst e; rw [ih]
            · rw [List.set_comm _ _ e, ih, List.set_comm _ _ (Ne.symm e)]
        exact key vs σ
    · rcases List.mem_cons.mp h with h2 | h2
      · exact absurd h2.symm e
      · rw [wipe_set h2]
section
variable {c : C} {vs : List Nat}
theorem rd_name {i : Nat} (h : i ∈ vs) : RdOk c vs (gName i) (.nm i) := fun ι β H mh m v σm σ σm1 Q rel rl rv e q => by
  unfold asP at e
  cases e
  exact q _ (rl.set rv) (wipe_set h)
theorem rds_nil : RdsOk c vs gNil [] := fun ι β H mh ms us σm σ σm1 Q rel rl rv e q => by
  cases ms with
  | nil =>
    unfold asPs at e
    cases e
    exact ⟨rv.nil_iff, q σ rl rfl⟩
  | cons a l => unfold asPs at e; cases e
theorem rds_cons {g : TG} {gs : TGs} {p : TP} {ps : List TP} (h1 : RdOk c vs g p) (h2 : RdsOk c vs gs ps) : RdsOk c vs (gCons g gs) (p :: ps) := fun ι β H mh ms us σm σ σm1 Q rel rl rv e q => by
  cases ms with
  | nil => unfold asPs at e; cases e
  | cons m ms =>
    obtain ⟨u, r, rfl, q1, t⟩ := rv.cons_iff
    unfold asPs at e
    cases e1 : asP p m σm with
    | none => simp [e1] at e
    | some σ1 =>
      simp only [e1] at e
      exact ⟨u, r, rfl, h1 _ _ _ _ _ _ _ _ _ _ rel rl q1 e1 fun σ' rl' w1 => h2 _ _ _ _ _ _ _ _ _ _ rel rl' t e fun σ2 rl2 w2 => q σ2 rl2 (w2.trans w1)⟩
theorem asPs_len : ∀ {ps : List TP} {ms : List MV} {σ σ1 : Lo}, asPs ps ms σ = some σ1 → ms.length = ps.length
  | [], [], _, _, _ => rfl
  | [], _ :: _, _, _, e => by unfold asPs at e; cases e
  | _ :: _, [], _, _, e => by unfold asPs at e; cases e
  | p :: ps, m :: ms, σ, _, e => by
    unfold asPs at e
    cases e1 : asP p m σ with
    | none => simp [e1] at e
    | some σ1 => simp only [e1] at e; simp [asPs_len e]
theorem rd_tup {K : PySem.W.Frag} {gs : TGs} {ps : List TP} {n : Nat} (hK : K = c.K) (hn : n = ps.length) (h : RdsOk c vs gs ps) : RdOk c vs (gTup K n gs) (.tp ps) := fun ι β H mh m v σm σ σm1 Q rel rl rv e q => by
  unfold asP at e
  cases m with
  | tup ms =>
    simp only at e
    obtain ⟨a, us, rfl, sq, r⟩ := rv.tup_iff
    exact ⟨a, us, rfl, by rw [hK]; exact sq, by rw [← r.length, asPs_len e, hn], h _ _ _ _ _ _ _ _ _ _ rel rl r e q⟩
  | _ => cases e
end
def gmP (p : TP) : GM := fun m σ h => match asP p m σ with
  | some σ1 => .ok σ1 h
  | none => .bad

/-! ### the comprehension's loop -/
def lcGo (chk : MH → Bool) (p : TP) (t : TM) (e : EM) : List MV → Lo → MH → R (List MV)
  | [], _, h => if chk h = true then .ok [] h else .bad
  | x :: xs, σ, h => if chk h = true then match asP p x σ with
      | none => .bad
      | some σ1 => match t σ1 h with
        | .ok k h1 => if k = true then match e σ1 h1 with
            | .ok v h2 => match lcGo chk p t e xs σ h2 with
              | .ok r h3 => .ok (v :: r) h3
              | _ => .bad
            | _ => .bad
          else lcGo chk p t e xs σ h1
        | _ => .bad
    else .bad
def clrL (vs : List Nat) (σ : Lo) : Lo := vs.foldr (fun i l => l.set i none) σ
theorem Fr.updN {ι ι' : List Addr} {H H' : Hp} {D : Addr} {o : HO} (f : Fr ι H ι' H') (h : H D = none) : Fr ι H ι' (upd H' D o) :=
  ⟨f.pre, fun a u e n => by
    obtain ⟨o', e', w⟩ := f.keep a u e n
    exact ⟨o', by rw [upd_ne (ne_of_none e h)]; exact e', w⟩, f.news, fun a od u e => by rw [upd_ne (ne_of_none e h)]; exact f.frz a od u e⟩
abbrev W0 : WX := fun _ _ _ _ => False
/-- what is wanted of the list's end -/
def PostC (c : C) (ι1 β : List Addr) (H1 : Hp) (D : Addr) (accm : List MV) (Q : Hp → Prop) : R (List MV) → Prop
  | .ok r h' => ∀ ι' H' vs', Fr ι1 H1 ι' H' → Rel c ι' (D :: β) H' h' → H' D = some (.lst vs') → RepVs c.K ι' (D :: β) H' (accm ++ r) vs' → Q H'
  | _ => False
theorem lc_of {c : C} {J : It} {items : List MV} {chk : MH → Bool} {inv : List Addr → List Addr → Hp → Prop} {ι1 β : List Addr} {H1 : Hp} {mh : MH} {σm : Lo} {σ : St} {p : TP} {t : TM} {e : EM} {g : TG} {vs : List Nat} {D : Addr} {Q : Hp → Prop}
    (S : Src c J items chk inv)
    (rd : RdOk c vs g p) (hl : items.length ≤ SZ) (rel : Rel c ι1 β H1 mh) (rl : RepL c.K ι1 β H1 σm σ) (hi : inv ι1 β H1) (hD : H1 D = none)
    (q : PostC c ι1 β H1 D [] Q (lcGo chk p t e items (clrL vs σm) mh)) :
    ∃ W : Nat → Nat → Hp → Prop, (∃ m, W 0 m (upd H1 D (.lst []))) ∧ ∀ i m H, W i m H →
      (J.stop i H ∧ Q H) ∨ (J.go i H ∧ ∃ Nx : Hp → Prop, (∀ H', Nx H' → ∃ m', m' < m ∧ W (i + 1) m' H') ∧ ∀ x H', J.yld i H x H' → g x (wipe σ vs) H' fun σ2 H2 => wipe σ2 vs = wipe σ vs ∧ tT c W0 t σ2 H2 fun b H3 =>
        if b = true then tE c W0 e σ2 H3 fun y H4 => ∃ acc, H4 D = some (.lst acc) ∧ acc.length < sizeLine ∧ Nx (upd H4 D (.lst (acc ++ [y]))) else Nx H3) := by
  have nf : ∀ (l : List V) od u, HO.lst l ≠ .frz od u := fun l od u z => by cases z
  refine ⟨fun i m H => m = items.length - i ∧ i ≤ items.length ∧ ∃ ι mh accm accv, Rel c ι (D :: β) H mh ∧ RepL c.K ι (D :: β) H (clrL vs σm) (wipe σ vs) ∧ inv ι (D :: β) H ∧ Fr ι1 H1 ι H ∧ H D = some (.lst accv) ∧ RepVs c.K ι (D :: β) H accm accv ∧ accv.length ≤ i ∧
      PostC c ι1 β H1 D accm Q (lcGo chk p t e (items.drop i) (clrL vs σm) mh),
    ⟨items.length, by simp, Nat.zero_le _, ι1, mh, [], [], rel.ban' hD (nf _), (rl.clear vs).move (Mov.ban hD), S.ban _ _ _ _ _ hi hD, ?_, upd_same, .nil, Nat.zero_le _, by simpa using q⟩, ?_⟩
  · exact Fr.updN .refl hD
  · rintro i m H ⟨rfl, hle, ι, mh, accm, accv, rel, rl, hi, fr, hDl, ra, hal, q⟩
    by_cases hlt : i < items.length
    · rw [List.drop_eq_getElem_cons hlt] at q
      unfold lcGo at q
      split at q
      · rename_i hc
        obtain ⟨go, yl⟩ := S.go ι (D :: β) H mh i items[i] rel hi hc (List.getElem?_eq_getElem hlt)
        refine .inr ⟨go, fun H' => ∃ ι mh accm accv, Rel c ι (D :: β) H' mh ∧ RepL c.K ι (D :: β) H' (clrL vs σm) (wipe σ vs) ∧ inv ι (D :: β) H' ∧ Fr ι1 H1 ι H' ∧ H' D = some (.lst accv) ∧ RepVs c.K ι (D :: β) H' accm accv ∧ accv.length ≤ i + 1 ∧
          PostC c ι1 β H1 D accm Q (lcGo chk p t e (items.drop (i + 1)) (clrL vs σm) mh), fun H' hN => ⟨items.length - (i + 1), by omega, rfl, hlt, hN⟩, fun x H' hy => ?_⟩
        obtain ⟨f1, rel1, rx⟩ := yl x H' hy
        have ww : wipe (wipe σ vs) vs = wipe σ vs := by
          have gen : ∀ (ws : List Nat) (τ : St), (∀ j ∈ ws, ∀ v, τ[j]? = some v → v = none) → wipe τ ws = τ := by
            intro ws
            induction ws with
            | nil => intro τ _; rfl
            | cons k ws ih =>
              intro τ h
              unfold wipe
              rw [ih τ fun j hj => h j (List.mem_cons_of_mem _ hj)]
              apply List.ext_getElem?
              intro j
              rw [List.getElem?_set]
              split
              · rename_i e
                subst e
                split
                · rename_i hk
                  cases e2 : τ[k]? with
                  | none => rw [List.getElem?_eq_getElem hk] at e2; cases e2
                  | some v => rw [h k List.mem_cons_self v e2]
                · rename_i hk
                  rw [List.getElem?_eq_none (by omega)]
              · rfl
          refine gen vs _ fun j hj v hv => ?_
          cases v with
          | none => rfl
          | some z => exact absurd hj (wipe_some hv).2
        cases ea : asP p items[i] (clrL vs σm) with
        | none => simp only [ea] at q; exact q.elim
        | some σ1 =>
          simp only [ea] at q
          refine rd ι (D :: β) H' mh items[i] x _ _ σ1 _ rel1 (rl.mono f1) rx ea fun σ' rl' hw => ⟨hw.trans ww, ?_⟩
          have frH' := fr.trans f1
          refine ⟨ι, D :: β, mh, σ1, rel1, rl', ?_⟩
          have hDk : ∀ {ι' : List Addr} {H2 : Hp}, Fr ι H' ι' H2 → H2 D = some (.lst accv) := fun {ι' H2} f2 => by
            obtain ⟨_, _, nD, _⟩ := rel.ban D List.mem_cons_self
            obtain ⟨o1, e1, w1⟩ := f1.keep D _ hDl nD
            obtain ⟨o2, e2, w2⟩ := f2.keep D _ e1 nD
            rw [e2, w1.lst] at *
            rw [w2.lst]
          cases et : t σ1 mh with
          | ok k h1 =>
            simp only [et] at q
            intro ι2 H2 b f2 rel2 hb
            obtain rfl : k = b := hb
            cases k with
            | true =>
              rw [if_pos rfl] at q ⊢
              refine ⟨ι2, D :: β, h1, σ1, rel2, rl'.mono f2, ?_⟩
              cases ee : e σ1 h1 with
              | ok v h2 =>
                simp only [ee] at q
                intro ι3 H3 y f3 rel3 ry
                have f23 := f2.trans f3
                have hD3 := hDk f23
                refine ⟨accv, hD3, by rw [sz_eq]; omega, ι3, h2, accm ++ [v], accv ++ [y], rel3.turn (nf _), ((rl.mono (f1.trans f23)).move Mov.turn), S.turn _ _ _ _ _ (S.mono _ _ _ _ _ (f1.trans f23) hi), Fr.updN (frH'.trans f23) hD, upd_same, ((ra.mono (f1.trans f23)).append (.cons ry .nil)).move Mov.turn, by simp; omega, ?_⟩
                cases er : lcGo chk p t e (items.drop (i + 1)) (clrL vs σm) h2 with
                | ok r h3 =>
                  simp only [er] at q
                  intro ι' H' vs' f rel' hD' rv'
                  exact q ι' H' vs' f rel' hD' (by simpa using rv')
                | ex a b => simp only [er] at q; exact q
                | bad => simp only [er] at q; exact q
              | ex a b => simp only [ee] at q; exact q.elim
              | bad => simp only [ee] at q; exact q
            | false =>
              rw [if_neg Bool.false_ne_true] at q ⊢
              exact ⟨ι2, h1, accm, accv, rel2, rl.mono (f1.trans f2), S.mono _ _ _ _ _ (f1.trans f2) hi, frH'.trans f2, hDk f2, ra.mono (f1.trans f2), by omega, q⟩
          | ex a b => simp only [et] at q; exact q.elim
          | bad => simp only [et] at q; exact q
      · exact q.elim
    · have ei : i = items.length := by omega
      subst ei
      rw [List.drop_length] at q
      unfold lcGo at q
      split at q
      · rename_i hc
        exact .inl ⟨S.stop ι (D :: β) H mh rel hi hc, q ι H accv fr rel hDl (by simpa using ra)⟩
      · exact q.elim

/-! ### the comprehension as an expression -/
section
variable {X : Cx} {c : C} {W : WX}
/-- its list, unchanging or new -/
def mLc (r : IM) (p : TP) (t : TM) (e : EM) (vs : List Nat) (fin : List MV → MH → R MV) : EM := fun σ h => bindR (r σ h) fun lc h1 =>
  if lc.1.length ≤ SZ then match lcGo lc.2 p t e lc.1 (clrL vs σ) h1 with
    | .ok l h2 => fin l h2
    | _ => .bad
  else .bad
@[simp] def finV (l : List MV) (h : MH) : R MV := .ok (.lv l) h
@[simp] def finR (l : List MV) (h : MH) : R MV := .ok (.ref h.length) (h ++ [.lst l])
/-- how the list that was built is handed on -/
def FinOk (c : C) (fin : List MV → MH → R MV) : Prop := ∀ ι1 β H1 mh0 D ι' H' l vs' h' Q W, Rel c ι1 β H1 mh0 → H1 D = none → Fr ι1 H1 ι' H' → Rel c ι' (D :: β) H' h' → H' D = some (.lst vs') → RepVs c.K ι' (D :: β) H' l vs' → Post c ι1 β H1 (RV c) Q W (fin l h') → Q (.ref D) H'
theorem fin_V : FinOk c finV := fun ι1 β H1 mh0 D ι' H' l vs' h' Q W rel0 hD f rel hD' rv p => by
  obtain ⟨_, _, nD, _⟩ := rel.ban D List.mem_cons_self
  refine p ι' H' (.ref D) f rel.free ?_
  unfold RepV
  exact ⟨D, vs', rfl, ⟨hD', nD, nban rel0 hD⟩, rv.move Mov.free⟩
/-- a built thing is mapped -/
theorem Mov.own {ι β : List Addr} {H : Hp} {D : Addr} : Mov ι (D :: β) H (ι ++ [D]) β H :=
  ⟨fun a u e n nb => ⟨⟨u, e, .rfl'⟩, fun z => by
    rcases List.mem_append.mp z with z | z
    · exact n z
    · have : a = D := by simpa using z
      exact nb (by rw [this]; exact List.mem_cons_self), fun z => nb (List.mem_cons_of_mem _ z)⟩, fun n a h => by
    rw [List.getElem?_append_left (List.getElem?_eq_some_iff.mp h).1]; exact h⟩
theorem Rel.own {ι β : List Addr} {H : Hp} {D : Addr} {mh : MH} {mo : MO} (nb : D ∉ β) (r : Rel c ι (D :: β) H mh) (q : RepO c (ι ++ [D]) β H D mo) : Rel c (ι ++ [D]) β H (mh ++ [mo]) := by
  obtain ⟨_, _, nD, _⟩ := r.ban D List.mem_cons_self
  refine ⟨by simp [r.len], ?_, fun b hb => ?_, fun n u e => ?_⟩
  · refine List.nodup_append.mpr ⟨r.nd, by simp, fun a ha b hb => ?_⟩
    have : b = D := by simpa using hb
    subst this
    rintro rfl
    exact nD ha
  · obtain ⟨u, e, n, nf⟩ := r.ban b (List.mem_cons_of_mem _ hb)
    refine ⟨u, e, fun z => ?_, nf⟩
    rcases List.mem_append.mp z with z | z
    · exact n z
    · have : b = D := by simpa using z
      exact nb (by rw [← this]; exact hb)
  · by_cases hn : n < mh.length
    · rw [List.getElem?_append_left hn] at e
      obtain ⟨a, e1, q1⟩ := r.obj n u e
      refine ⟨a, ?_, q1.move Mov.own rfl⟩
      rw [List.getElem?_append_left (by rw [← r.len]; exact hn)]
      exact e1
    · rw [List.getElem?_append_right (by omega)] at e
      have hz : n - mh.length = 0 := by
        have := (List.getElem?_eq_some_iff.mp e).1
        simp at this
        exact this
      rw [hz] at e
      simp at e
      subst e
      refine ⟨D, ?_, q⟩
      rw [List.getElem?_append_right (by rw [← r.len]; omega), ← r.len, hz]
      rfl
theorem fin_R : FinOk c finR := fun ι1 β H1 mh0 D ι' H' l vs' h' Q W rel0 hD f rel hD' rv p => by
  have nb := nban rel0 hD
  obtain ⟨_, _, nD, _⟩ := rel.ban D List.mem_cons_self
  refine p (ι' ++ [D]) H' (.ref D) ⟨?_, f.keep, fun a z n => ?_, f.frz⟩ (rel.own nb ⟨vs', hD', rv.move Mov.own⟩) ?_
  · obtain ⟨t, rfl⟩ := f.pre
    exact ⟨t ++ [D], by simp⟩
  · rcases List.mem_append.mp z with z | z
    · exact f.news a z n
    · have : a = D := by simpa using z
      rw [this]; exact hD
  · unfold RepV
    refine ⟨D, rfl, ?_⟩
    rw [rel.len, List.getElem?_append_right (Nat.le_refl _)]
    simp
theorem mLc_of {r : IM} {p : TP} {t : TM} {e : EM} {vs : List Nat} {fin : List MV → MH → R MV} {g : TG} {σ : St} {H : Hp} {Q : VK} (fo : FinOk c fin) (rd : RdOk c vs g p) (h : tE c W (mLc r p t e vs fin) σ H Q) : tLc (tI c W r) g (tT c W0 t) (tE c W0 e) vs σ H Q := by
  obtain ⟨ι, β, mh, σm, rel, rl, q⟩ := h
  refine ⟨ι, β, mh, σm, rel, rl, ?_⟩
  unfold mLc at q
  cases er : r σm mh with
  | ok lc h1 =>
    obtain ⟨l, chk⟩ := lc
    simp only [er, bindR] at q
    intro ι' H' J inv f rel' S hi D hD
    split at q
    · rename_i hl
      refine lc_of S rd hl rel' (rl.mono f) hi hD ?_
      cases el : lcGo chk p t e l (clrL vs σm) h1 with
      | ok l2 h2 =>
        simp only [el] at q
        intro ι2 H2 vs' f2 rel2 hD2 rv2
        exact fo ι' β H' h1 D ι2 H2 l2 vs' h2 Q _ rel' hD f2 rel2 hD2 (by simpa using rv2) (Post.fr f q)
      | ex a b => simp only [el] at q; exact q.elim
      | bad => simp only [el] at q; exact q
    · exact q.elim
  | ex x h1 => simp only [er, bindR] at q; exact q
  | bad => simp only [er, bindR] at q; exact q
@[simp] def mYes : TM := fun _ h => .ok true h
theorem pts0 : PTs X [] (tT c W0 mYes) := ⟨fun pins s σ H Q I ⟨ι, β, mh, σm, rel, rl, p⟩ => pts_nil.run pins s σ H Q I (p ι H true .refl rel rfl)⟩
theorem pts1 {a : Expr} {t : TM} (h : PT X a (tT c W0 t)) : PTs X [a] (tT c W0 t) := pts_one h
theorem e_lc {elt tg iter : Expr} {ifs : List Expr} {scope : Scope} {own : List (Str × Nat)} {pos : Pos} {r : IM} {p : TP} {t : TM} {e : EM} {g : TG} (fin : List MV → MH → R MV) (fo : FinOk c fin) (hc : X.calm = true) (hN : X.N.Nodup) (hi : PI X tg iter (tI c W r)) (ok : BlkOk X.N X.env.scope scope own)
    (rd : RdOk c (own.map (·.2)) g p)
    (hg : ∀ (s : Shared) (H : Hp) (C : Addr) (cl : List (Str × Addr)) (fp : List Addr), PG (X.blk s H scope (compEnvC scope cl C X.env) fp) tg g) (ht : ∀ (s : Shared) (H : Hp) (C : Addr) (cl : List (Str × Addr)) (fp : List Addr), PTs (X.blk s H scope (compEnvC scope cl C X.env) fp) ifs (tT c W0 t))
    (he : ∀ (s : Shared) (H : Hp) (C : Addr) (cl : List (Str × Addr)) (fp : List Addr), PE (X.blk s H scope (compEnvC scope cl C X.env) fp) elt (tE c W0 e)) (hs : ∀ x, foldedSetIterable iter X.env x = pure x := by intro _; rfl) :
    PE X (.ListComp elt [⟨tg, iter, ifs, 0⟩] scope pos) (tE c W (mLc r p t e (own.map (·.2)) fin)) :=
  (pe_lc hc hN hi ok hg ht he hs).wk fun σ H Q h => mLc_of fo rd h
theorem tLc_mono {wi : TI} {g : TG} {tt : TT} {te : TE} {vs : List Nat} {σ : St} {H : Hp} {Q Q' : VK} (h : tLc wi g tt te vs σ H Q) (hw : ∀ σ H R R', (∀ J H', R J H' → R' J H') → wi σ H R → wi σ H R') (hq : ∀ v H', Q v H' → Q' v H') : tLc wi g tt te vs σ H Q' :=
  hw σ H _ _ (fun J H1 hh D hD => by
    obtain ⟨Wn, w0, ws⟩ := hh D hD
    exact ⟨Wn, w0, fun i m H hW => (ws i m H hW).imp (fun ⟨a, b⟩ => ⟨a, hq _ _ b⟩) id⟩) h
theorem tI_mono {r : IM} (σ : St) (H : Hp) (R R' : It → Hp → Prop) (q : ∀ J H', R J H' → R' J H') (h : tI c W r σ H R) : tI c W r σ H R' := by
  obtain ⟨ι, β, mh, σm, rel, rl, p⟩ := h
  refine ⟨ι, β, mh, σm, rel, rl, ?_⟩
  cases er : r σm mh with
  | ok lc h1 => rw [er] at p; exact fun ι' H' J inv f a b d => q _ _ (p ι' H' J inv f a b d)
  | ex x h1 => rw [er] at p; exact p
  | bad => rw [er] at p; exact p
theorem s_setLc {i : Nat} {y : Str} {py : Pos} {elt tg iter : Expr} {ifs : List Expr} {scope : Scope} {own : List (Str × Nat)} {pos spos : Pos} {r : IM} {p : TP} {t : TM} {e : EM} {g : TG} (fin : List MV → MH → R MV) (fo : FinOk c fin) (hc : X.calm = true) (hN : X.N.Nodup) (hy : X.N[i]? = some y) (hyl : X.env.scope.names.lookup y = some .local)
    (hsw : swapsWith (.ListComp elt [⟨tg, iter, ifs, 0⟩] scope pos) (some (.Name y py)) spos.line X.env = pure true) (hi : PI X tg iter (tI c W r)) (ok : BlkOk X.N X.env.scope scope own)
    (rd : RdOk c (own.map (·.2)) g p)
    (hg : ∀ (s : Shared) (H : Hp) (C : Addr) (cl : List (Str × Addr)) (fp : List Addr), PG (X.blk s H scope (compEnvC scope cl C X.env) fp) tg g) (ht : ∀ (s : Shared) (H : Hp) (C : Addr) (cl : List (Str × Addr)) (fp : List Addr), PTs (X.blk s H scope (compEnvC scope cl C X.env) fp) ifs (tT c W0 t))
    (he : ∀ (s : Shared) (H : Hp) (C : Addr) (cl : List (Str × Addr)) (fp : List Addr), PE (X.blk s H scope (compEnvC scope cl C X.env) fp) elt (tE c W0 e)) (hs : ∀ x, foldedSetIterable iter X.env x = pure x := by intro _; rfl) :
    PS X (.Assign [.Name y py] (.ListComp elt [⟨tg, iter, ifs, 0⟩] scope pos) spos) (tS c W (sSet i (mLc r p t e (own.map (·.2)) fin))) :=
  (ps_setLc hc hN hy hyl hsw hi ok hg ht he hs).wk fun D σ H ⟨ι, β, mh, σm, rel, rl, q⟩ => by
    have h1 : tE c W (mLc r p t e (own.map (·.2)) fin) σ H _ := run1S (Rp := RV c) rel rl q
    refine tLc_mono (mLc_of fo rd h1) tI_mono fun v H1 ⟨ι1, mh1, a, f1, rel1, rl1, ra1, p1⟩ => ?_
    exact p1 ι1 H1 _ .refl rel1 (rl1.set ra1)
end
end MP

/-! Mirror layer, part 6: operations by values. -/
namespace MP
open PySem PySem.Spec PyProof.Rows L2

section
variable {c : C} {X : Cx}
theorem rb {K : PySem.W.Frag} {ι β : List Addr} {H : Hp} {i : Bool} {v : V} (h : RepV K ι β H (.bl i) v) : v = .bl i := by unfold RepV at h; exact h
theorem rs {K : PySem.W.Frag} {ι β : List Addr} {H : Hp} {i : Str} {v : V} (h : RepV K ι β H (.str i) v) : v = .str i := by unfold RepV at h; exact h
theorem rn {K : PySem.W.Frag} {ι β : List Addr} {H : Hp} {v : V} (h : RepV K ι β H .non v) : v = .non := by unfold RepV at h; exact h

/-! ### ints -/
def iop (f : Int → Int → MV) (ok : Int → Int → Bool) (a b : MV) (h : MH) : R MV := match a, b with
  | .int i, .int j => if ok i j = true then .ok (f i j) h else .bad
  | _, _ => .bad
theorem p2_iop {f : Int → Int → MV} {ok : Int → Int → Bool} {r : R2} {g : Int → Int → V} (hg : ∀ i j ι β H, RepV c.K ι β H (f i j) (g i j)) (hr : ∀ i j H Q, ok i j = true → Q (g i j) H → r (.int i) (.int j) H Q) : P2 c r (iop f ok) := fun ι β H mh a b x y Q W rel ra rb p => by
  cases a with
  | int i =>
    cases b with
    | int j =>
      unfold iop at p
      simp only at p
      split at p
      · rename_i ho
        rw [ri ra, ri rb]
        exact hr i j H Q ho (p ι H _ .refl rel (hg _ _ _ _ _))
      · exact p.elim
    | _ => exact p.elim
  | _ => cases b <;> exact p.elim
def yes2 (_ _ : Int) : Bool := true
def mSubI := iop (fun i j => .int (i - j)) yes2
def mMulI := iop (fun i j => .int (i * j)) fun i j => (decide (-18446744073709551616 < i) && decide (i < 18446744073709551616)) || (decide (-18446744073709551616 < j) && decide (j < 18446744073709551616))
def mDivI := iop (fun i j => .int (i / j)) fun i j => decide (0 < j) && decide (j < 1073741824)
def mModI := iop (fun i j => .int (i % j)) fun i j => decide (0 < j)
def mPowI := iop (fun i j => .int (i ^ j.toNat)) fun i j => decide (0 ≤ j) && decide (j ≤ 1000000) && decide (i.natAbs < 18446744073709551616)
def mShlI := iop (fun i j => .int (i * 2 ^ j.toNat)) fun i j => decide (0 ≤ j) && decide (j ≤ 1000000) && decide (i.natAbs < 18446744073709551616)
def mShrI := iop (fun i j => .int (i / 2 ^ j.toNat)) fun i j => decide (0 ≤ j)
def mLt := iop (fun i j => .bl (decide (i < j))) yes2
def mLe := iop (fun i j => .bl (decide (i ≤ j))) yes2
def mGt := iop (fun i j => .bl (decide (j < i))) yes2
def mGe := iop (fun i j => .bl (decide (j ≤ i))) yes2
theorem p_sub : P2 c (rI0 fun i j => .int (i - j)) mSubI := p2_iop (fun _ _ _ _ _ => rint _ _ _) fun i j H Q _ q => ⟨i, j, rfl, rfl, q⟩
theorem p_mul : P2 c (rI CMul fun i j => .int (i * j)) mMulI := p2_iop (fun _ _ _ _ _ => rint _ _ _) fun i j H Q ho q => by
  simp only [Bool.or_eq_true, Bool.and_eq_true, decide_eq_true_eq] at ho
  refine ⟨i, j, rfl, rfl, ?_, q⟩
  rcases ho with h | h
  · exact .inl ⟨by simpa using h.1, by simpa using h.2⟩
  · exact .inr ⟨by simpa using h.1, by simpa using h.2⟩
theorem p_div : P2 c (rI CDiv fun i j => .int (i / j)) mDivI := p2_iop (fun _ _ _ _ _ => rint _ _ _) fun i j H Q ho q => by
  simp only [Bool.and_eq_true, decide_eq_true_eq] at ho
  exact ⟨i, j, rfl, rfl, ⟨ho.1, ho.2⟩, q⟩
theorem p_mod : P2 c (rI (fun _ j => 0 < j) fun i j => .int (i % j)) mModI := p2_iop (fun _ _ _ _ _ => rint _ _ _) fun i j H Q ho q => ⟨i, j, rfl, rfl, by simpa using ho, q⟩
theorem p_pow : P2 c (rI CPow fun i j => .int (i ^ j.toNat)) mPowI := p2_iop (fun _ _ _ _ _ => rint _ _ _) fun i j H Q ho q => by
  simp only [Bool.and_eq_true, decide_eq_true_eq] at ho
  exact ⟨i, j, rfl, rfl, ⟨ho.1.1, ho.1.2, by simpa using ho.2⟩, q⟩
theorem p_shl : P2 c (rI CPow fun i j => .int (i * 2 ^ j.toNat)) mShlI := p2_iop (fun _ _ _ _ _ => rint _ _ _) fun i j H Q ho q => by
  simp only [Bool.and_eq_true, decide_eq_true_eq] at ho
  exact ⟨i, j, rfl, rfl, ⟨ho.1.1, ho.1.2, by simpa using ho.2⟩, q⟩
theorem p_shr : P2 c (rI (fun _ j => 0 ≤ j) fun i j => .int (i / 2 ^ j.toNat)) mShrI := p2_iop (fun _ _ _ _ _ => rint _ _ _) fun i j H Q ho q => ⟨i, j, rfl, rfl, by simpa using ho, q⟩
theorem p_lt : P2 c (rI0 fun i j => .bl (decide (i < j))) mLt := p2_iop (fun _ _ _ _ _ => rbl _ _ _) fun i j H Q _ q => ⟨i, j, rfl, rfl, q⟩
theorem p_le : P2 c (rI0 fun i j => .bl (decide (i ≤ j))) mLe := p2_iop (fun _ _ _ _ _ => rbl _ _ _) fun i j H Q _ q => ⟨i, j, rfl, rfl, q⟩
theorem p_gt : P2 c (rI0 fun i j => .bl (decide (j < i))) mGt := p2_iop (fun _ _ _ _ _ => rbl _ _ _) fun i j H Q _ q => ⟨i, j, rfl, rfl, q⟩
theorem p_ge : P2 c (rI0 fun i j => .bl (decide (j ≤ i))) mGe := p2_iop (fun _ _ _ _ _ => rbl _ _ _) fun i j H Q _ q => ⟨i, j, rfl, rfl, q⟩
def mNeg (a : MV) (h : MH) : R MV := match a with
  | .int i => .ok (.int (-i)) h
  | _ => .bad
theorem p_neg : P1 c (rU fun i => .int (-i)) mNeg := fun ι β H mh a x Q W rel ra p => by
  cases a with
  | int i => exact ⟨i, ri ra, p ι H _ .refl rel (rint _ _ _)⟩
  | _ => exact p.elim

/-! ### lists -/
def asL (v : MV) (h : MH) : Option (List MV) := match v with
  | .lv l => some l
  | .ref n => match h[n]? with
    | some (.lst l) => some l
    | _ => none
  | _ => none
theorem asL_rep {v : MV} {h : MH} {l : List MV} {ι β : List Addr} {H : Hp} {x : V} (e : asL v h = some l) (rel : Rel c ι β H h) (rv : RepV c.K ι β H v x) : ∃ a vs, x = .ref a ∧ H a = some (.lst vs) ∧ RepVs c.K ι β H l vs := by
  cases v with
  | lv l' =>
    unfold asL at e
    cases e
    unfold RepV at rv
    obtain ⟨a, vs, rfl, ⟨q, _⟩, r⟩ := rv
    exact ⟨a, vs, rfl, q, r⟩
  | ref n =>
    unfold RepV at rv
    obtain ⟨a, rfl, ea⟩ := rv
    obtain ⟨o, eo, ro⟩ := rel.at ea
    unfold asL at e
    simp only [eo] at e
    cases o with
    | lst l' =>
      cases e
      obtain ⟨vs, q, r⟩ := ro
      exact ⟨a, vs, rfl, q, r⟩
    | dct _ => cases e
    | fdc _ => cases e
    | ins _ _ => cases e
  | _ => cases e
/-- a list that is new at p -/
def FinN (c : C) (fin : List MV → MH → R MV) : Prop := ∀ ι β H mh l vs p Q W, Rel c ι β H mh → RepVs c.K ι β H l vs → H p = none → Post c ι β H (RV c) Q W (fin l mh) → Q (.ref p) (upd H p (.lst vs))
theorem finN_V : FinN c finV := fun ι β H mh l vs p Q W rel r hp q => q ι _ _ (Fr.lay rel hp) (rel.lay hp) (rep_lv rel hp r)
theorem finN_R : FinN c finR := fun ι β H mh l vs p Q W rel r hp q => q (ι ++ [p]) _ _ (Fr.new rel hp) (rel.new hp ⟨vs, upd_same, r.mono (Fr.new rel hp)⟩) (rep_ref rel)

/-! ### + -/
def mAdd (fin : List MV → MH → R MV) (a b : MV) (h : MH) : R MV := match a, b with
  | .int i, .int j => .ok (.int (i + j)) h
  | .str x, .str y => if x.length + y.length ≤ SZ then .ok (.str (x ++ y)) h else .bad
  | .tup l, .tup r => if l.length + r.length ≤ SZ then .ok (.tup (l ++ r)) h else .bad
  | a, b => match asL a h, asL b h with
    | some l, some r => if l.length + r.length ≤ SZ then fin (l ++ r) h else .bad
    | _, _ => .bad
def rAdd4 (K : PySem.W.Frag) : R2 := fun x y H Q => (((∃ i j, x = .int i ∧ y = .int j ∧ Q (.int (i + j)) H) ∨ (∃ i j, x = .str i ∧ y = .str j ∧ i.length + j.length ≤ sizeLine ∧ Q (.str (i ++ j)) H)) ∨ rCatA K x y H Q) ∨ rCat x y H Q
theorem op_add4 : OpR X (binaryOp .Add) (rAdd4 X.K) := ((op_add.or op_add_str).or op_catA).or op_cat
theorem p_add {fin : List MV → MH → R MV} (hf : FinN c fin) : P2 c (rAdd4 c.K) (mAdd fin) := fun ι β H mh a b x y Q W rel ra rb p => by
  have lists : ∀ l r, asL a mh = some l → asL b mh = some r → l.length + r.length ≤ SZ → Post c ι β H (RV c) Q W (fin (l ++ r) mh) → rAdd4 c.K x y H Q := fun l r e1 e2 hl p => by
    obtain ⟨a1, v1, rfl, q1, r1⟩ := asL_rep e1 rel ra
    obtain ⟨a2, v2, rfl, q2, r2⟩ := asL_rep e2 rel rb
    exact .inr ⟨a1, a2, v1, v2, rfl, rfl, q1, q2, by rw [← r1.length, ← r2.length, sz_eq]; exact hl, fun z hz => hf _ _ _ _ _ _ _ _ _ rel (r1.append r2) hz p⟩
  unfold mAdd at p
  split at p
  · exact .inl (.inl (.inl ⟨_, _, ri ra, ri rb, p ι H _ .refl rel (rint _ _ _)⟩))
  · split at p
    · rename_i hl
      exact .inl (.inl (.inr ⟨_, _, rs ra, rs rb, by rw [sz_eq]; exact hl, p ι H _ .refl rel (rstr _ _ _)⟩))
    · exact p.elim
  · split at p
    · rename_i l r hl
      obtain ⟨a1, v1, rfl, q1, r1⟩ := ra.tup_iff
      obtain ⟨a2, v2, rfl, q2, r2⟩ := rb.tup_iff
      refine .inl (.inr ⟨a1, a2, v1, v2, rfl, rfl, q1, q2, by rw [← r1.length, ← r2.length, sz_eq]; exact hl, fun e => ?_, fun _ e => ?_, fun _ _ z hz => ?_⟩)
      · subst e
        have : l = [] := by have := r1.length; simpa using this
        subst this
        exact p ι H _ .refl rel rb
      · subst e
        have : r = [] := by have := r2.length; simpa using this
        subst this
        exact p ι H _ .refl rel (by rw [List.append_nil]; exact ra)
      · exact p ι _ _ (Fr.lay rel hz) (rel.lay hz) (rep_tup rel hz (r1.append r2))
    · exact p.elim
  · split at p
    · rename_i e1 e2
      split at p
      · exact lists _ _ e1 e2 (by assumption) p
      · exact p.elim
    · exact p.elim

/-! ### subscripts -/
def asS (v : MV) (h : MH) : Option (List MV) := match v with
  | .lv l => some l
  | .fz l => some l
  | .tup l => some l
  | .ref n => match h[n]? with
    | some (.lst l) => some l
    | _ => none
  | _ => none
theorem asS_rep {v : MV} {h : MH} {l : List MV} {ι β : List Addr} {H : Hp} {x : V} (e : asS v h = some l) (rel : Rel c ι β H h) (rv : RepV c.K ι β H v x) : ∃ a vs, x = .ref a ∧ (SqL c.K H a vs ∨ SqT c.K H a vs) ∧ RepVs c.K ι β H l vs := by
  cases v with
  | lv l' =>
    obtain ⟨a, vs, e1, q, r⟩ := asL_rep (v := .lv l') (l := l) (by cases e; rfl) rel rv
    exact ⟨a, vs, e1, .inl (.inl (.inl q)), r⟩
  | tup l' =>
    cases e
    obtain ⟨a, vs, e1, q, r⟩ := rv.tup_iff
    exact ⟨a, vs, e1, .inr q, r⟩
  | fz l' =>
    cases e
    obtain ⟨a, vs, rfl, q, r⟩ := rv.fz_iff
    exact ⟨a, vs, rfl, .inl q, r⟩
  | ref n =>
    obtain ⟨a, vs, e1, q, r⟩ := asL_rep (v := .ref n) (l := l) (by unfold asS at e; unfold asL; exact e) rel rv
    exact ⟨a, vs, e1, .inl (.inl (.inl q)), r⟩
  | _ => cases e
def mIx (a b : MV) (h : MH) : R MV := match b with
  | .int i => match asS a h with
    | some l => match atI l i with
      | some v => .ok v h
      | none => .bad
    | none => match a with
      | .str z => if z.length ≤ SZ then match atI z.cps.toList i with
        | some k => .ok (.str ⟨#[k]⟩) h
        | none => .bad
        else .bad
      | _ => .bad
  | _ => .bad
theorem atI_rep {K : PySem.W.Frag} {ι β : List Addr} {H : Hp} {l : List MV} {vs : List V} {i : Int} {m : MV} (r : RepVs K ι β H l vs) (e : atI l i = some m) : ∃ v, atI vs i = some v ∧ RepV K ι β H m v := by
  unfold atI at e ⊢
  rw [← r.length]
  cases ej : ixN l.length i with
  | none => rw [ej] at e; cases e
  | some j =>
    rw [ej] at e
    exact r.get e
theorem p_ix : P2 c (rIx c.K) mIx := fun ι β H mh a b x y Q W rel ra rb p => by
  cases b with
  | int i =>
    unfold mIx at p
    simp only at p
    cases es : asS a mh with
    | some l =>
      simp only [es] at p
      cases ea : atI l i with
      | none => simp only [ea] at p; exact p.elim
      | some v =>
        simp only [ea] at p
        obtain ⟨q, vs, rfl, sq, r⟩ := asS_rep es rel ra
        obtain ⟨u, eu, ru⟩ := atI_rep r ea
        have := p ι H u .refl rel ru
        rcases sq with sq | sq
        · exact .inl ⟨q, vs, i, u, rfl, ri rb, sq, eu, this⟩
        · exact .inr (.inl ⟨q, vs, i, u, rfl, ri rb, sq, eu, this⟩)
    | none =>
      simp only [es] at p
      cases a with
      | str z =>
        simp only at p
        split at p
        · rename_i hz
          cases ea : atI z.cps.toList i with
          | none => simp only [ea] at p; exact p.elim
          | some k =>
            simp only [ea] at p
            exact .inr (.inr ⟨z, i, k, rs ra, ri rb, by rw [sz_eq]; exact hz, ea, p ι H _ .refl rel (rstr _ _ _)⟩)
        · exact p.elim
      | _ => exact p.elim
  | _ => exact p.elim
/-! x[lo:hi] -/
def cutM (l : List MV) (lo hi : Option Int) : List MV := (l.drop (HT.sIx l.length 0 lo)).take (HT.sIx l.length l.length hi - HT.sIx l.length 0 lo)
theorem cut_rep {K : PySem.W.Frag} {ι β : List Addr} {H : Hp} {l : List MV} {vs : List V} {lo hi : Option Int} (r : RepVs K ι β H l vs) : RepVs K ι β H (cutM l lo hi) (cutV vs lo hi) := by
  unfold cutM cutV
  rw [← r.length]
  exact (r.drop _).take _
abbrev OM := Lo → MH → R (Option Int)
def tO (c : C) (W : WX) (r : OM) : St → Hp → (Option Int → Hp → Prop) → Prop := tR c W (fun _ _ _ a b => a = b) r
@[simp] def oNone : OM := fun _ h => .ok none h
@[simp] def oSome (r : EM) : OM := fun σ h => bindR (r σ h) fun v h1 => match v with
  | .int i => .ok (some i) h1
  | _ => .bad
variable {W : WX} {e lo hi : Expr} {re : EM}
theorem _root_.L2.PO.wk {o : Option Expr} {t t' : St → Hp → (Option Int → Hp → Prop) → Prop} (h : PO X o t) (w : ∀ σ H Q, t' σ H Q → t σ H Q) : PO X o t' := ⟨fun pins s σ H Q I q => h.run pins s σ H Q I (w σ H Q q)⟩
theorem o_none : PO X none (tO c W oNone) := po_none.wk fun σ H Q ⟨ι, β, mh, σm, rel, rl, p⟩ => p ι H none .refl rel rfl
theorem o_some (he : PE X e (tE c W re)) : PO X (some e) (tO c W (oSome re)) := (po_some he).wk fun σ H Q ⟨ι, β, mh, σm, rel, rl, p⟩ => by
  refine (run1 rel rl p).mono fun x H1 ⟨ι1, mh1, a, f1, rel1, rl1, ra1, p1⟩ => ?_
  cases a with
  | int i => exact ⟨i, ri ra1, p1 ι1 H1 _ .refl rel1 rfl⟩
  | _ => exact p1.elim
def mSl (fin : List MV → MH → R MV) (a : MV) (lo hi : Option Int) (h : MH) : R MV := match a with
  | .tup l => .ok (.tup (cutM l lo hi)) h
  | a => match asL a h with
    | some l => fin (cutM l lo hi) h
    | none => .bad
@[simp] def m3o (f : MV → Option Int → Option Int → MH → R MV) (ra : EM) (rl ru : OM) : EM := fun σ h => bindR (ra σ h) fun a h1 => bindR (rl σ h1) fun l h2 => bindR (ru σ h2) fun u h3 => f a l u h3
def rSlLT (K : PySem.W.Frag) : V → Option Int → Option Int → Hp → VK → Prop := fun x lo hi H Q => rSlL K x lo hi H Q ∨ rSlA K x lo hi H Q
theorem sl_LT : SlR X (rSlLT X.K) := sl_list.or sl_tupA
theorem e_slice {rl ru : OM} {lo hi : Option Expr} {p2 pos : Pos} {fin : List MV → MH → R MV} (hf : FinN c fin) (hK : X.K = c.K) (he : PE X e (tE c W re)) (hl : PO X lo (tO c W rl)) (hu : PO X hi (tO c W ru)) : PE X (.Subscript e (.Slice lo hi none p2) pos) (tE c W (m3o (mSl fin) re rl ru)) :=
  (pe_slice sl_LT he hl hu).wk fun σ H Q ⟨ι, β, mh, σm, rel, rl, p⟩ => by
    refine (run1 rel rl p).mono fun x H1 ⟨ι1, mh1, a, f1, rel1, rl1, ra1, p1⟩ => ?_
    refine (run1 rel1 rl1 p1).mono fun l H2 ⟨ι2, mh2, l', f2, rel2, rl2, rl', p2⟩ => ?_
    refine (run1 rel2 rl2 p2).mono fun u H3 ⟨ι3, mh3, u', f3, rel3, rl3, ru', p3⟩ => ?_
    obtain rfl : l' = l := rl'
    obtain rfl : u' = u := ru'
    have rx := (ra1.mono f2).mono f3
    have key : Post c ι3 β H3 (RV c) Q (fun cls d H' => W cls d σ H') (match asL a mh3 with | some l => fin (cutM l l' u') mh3 | none => .bad) → rSlLT X.K x l' u' H3 Q := fun p3 => by
      cases es : asL a mh3 with
      | none => simp only [es] at p3; exact p3.elim
      | some l =>
        simp only [es] at p3
        obtain ⟨q, vs, rfl, sq, r⟩ := asL_rep es rel3 rx
        exact .inl ⟨q, vs, rfl, .inl (.inl sq), fun z hz => hf _ _ _ _ _ _ _ _ _ rel3 (cut_rep r) hz p3⟩
    cases a with
    | tup lt =>
      have p4 : Post c ι3 β H3 (RV c) Q (fun cls d H' => W cls d σ H') (.ok (.tup (cutM lt l' u')) mh3) := p3
      obtain ⟨q, vs, rfl, sq, r⟩ := rx.tup_iff
      refine .inr ⟨q, vs, rfl, by rw [hK]; exact sq, fun hw => ?_, fun _ z hz => p4 ι3 _ _ (Fr.lay rel3 hz) (rel3.lay hz) (rep_tup rel3 hz (cut_rep r))⟩
      have e : cutM lt l' u' = lt := by
        unfold cutM
        rw [r.length, hw.1, hw.2, ← r.length]
        simp
      rw [e] at p4
      exact p4 ι3 H3 _ .refl rel3 rx
    | _ => exact key p3

/-! ### calls of built-ins with values -/
theorem e_builtin {id : String} {x : Str} {p pos : Pos} {es : List Expr} {r : List V → Hp → VK → Prop} {f : List MV → MH → R MV} {rs : AM} (hc : CallR X (.builtin id) r) (hp : PN c r f) (hg : Gl X x) (hm : X.mg x = none) (hv : bootBuiltins x = some (.builtin id)) (ha : PA X (e :: es) (tA c W rs)) (hn : x ≠ "__name__" := by decide) (hdb : (x == ("__debug__" : Str)) = false := by decide)
    (he : starEach (e :: es) X.env = (false, eval e X.env) :: starEach es X.env := by rfl) (hpl : (backTo pos (starEach es X.env)).any (·.1) = false := by rfl) : PE X (.Call (.Name x p) (e :: es) [] pos) (tE c W (mN f rs)) :=
  (pe_callB hc hg hm hv ha hn hdb he hpl).wk fun σ H Q h => mN_of hp h
theorem e_builtinTy {T : String} {x : Str} {p pos : Pos} {es : List Expr} {r : List V → Hp → VK → Prop} {f : List MV → MH → R MV} {rs : AM} (hc : CallR X (.type T) r) (hp : PN c r f) (hg : Gl X x) (hm : X.mg x = none) (hv : bootBuiltins x = some (.type T)) (ha : PA X (e :: es) (tA c W rs)) (hn : x ≠ "__name__" := by decide) (hdb : (x == ("__debug__" : Str)) = false := by decide)
    (he : starEach (e :: es) X.env = (false, eval e X.env) :: starEach es X.env := by rfl) (hpl : (backTo pos (starEach es X.env)).any (·.1) = false := by rfl) : PE X (.Call (.Name x p) (e :: es) [] pos) (tE c W (mN f rs)) :=
  (pe_callTy hc hg hm hv ha hn hdb he hpl).wk fun σ H Q h => mN_of hp h
@[simp] def mMax (as : List MV) (h : MH) : R MV := match as with
  | [.int i, .int j] => .ok (.int (if j > i then j else i)) h
  | _ => .bad
@[simp] def mMin (as : List MV) (h : MH) : R MV := match as with
  | [.int i, .int j] => .ok (.int (if j < i then j else i)) h
  | _ => .bad
theorem p_max : PN c (fun xs H Q => ∃ i j, xs = [.int i, .int j] ∧ Q (.int (if j > i then j else i)) H) mMax := fun ι β H mh as xs Q W rel ra p => by
  unfold mMax at p
  split at p
  · obtain ⟨v, v', rfl, q, q'⟩ := Vs2 ra
    rw [ri q, ri q']
    exact ⟨_, _, rfl, p ι H _ .refl rel (rint _ _ _)⟩
  · exact p.elim
theorem p_min : PN c (fun xs H Q => ∃ i j, xs = [.int i, .int j] ∧ Q (.int (if j < i then j else i)) H) mMin := fun ι β H mh as xs Q W rel ra p => by
  unfold mMin at p
  split at p
  · obtain ⟨v, v', rfl, q, q'⟩ := Vs2 ra
    rw [ri q, ri q']
    exact ⟨_, _, rfl, p ι H _ .refl rel (rint _ _ _)⟩
  · exact p.elim
def mInt (as : List MV) (h : MH) : R MV := match as with
  | [.int i] => .ok (.int i) h
  | [.bl k] => .ok (.int (if k then 1 else 0)) h
  | _ => .bad
theorem p_int : PN c (fun xs H Q => (∃ i, xs = [.int i] ∧ Q (.int i) H) ∨ ∃ k, xs = [.bl k] ∧ Q (.int (if k then 1 else 0)) H) mInt := fun ι β H mh as xs Q W rel ra p => by
  unfold mInt at p
  split at p
  · obtain ⟨v, rfl, q⟩ := Vs1 ra
    rw [ri q]
    exact .inl ⟨_, rfl, p ι H _ .refl rel (rint _ _ _)⟩
  · obtain ⟨v, rfl, q⟩ := Vs1 ra
    rw [rb q]
    exact .inr ⟨_, rfl, p ι H _ .refl rel (rint _ _ _)⟩
  · exact p.elim
def mLen (as : List MV) (h : MH) : R MV := match as with
  | [a] => match asS a h with
    | some l => .ok (.int l.length) h
    | none => match a with
      | .str z => if z.length ≤ SZ then .ok (.int z.length) h else .bad
      | _ => .bad
  | _ => .bad
theorem p_len : PN c (fun xs H Q => ∃ x n, xs = [x] ∧ LenV c.K x H n ∧ Q (.int n) H) mLen := fun ι β H mh as xs Q W rel ra p => by
  unfold mLen at p
  split at p
  · rename_i a
    obtain ⟨v, rfl, q⟩ := Vs1 ra
    cases es : asS a mh with
    | some l =>
      simp only [es] at p
      obtain ⟨b, vs, rfl, sq, r⟩ := asS_rep es rel q
      refine ⟨.ref b, l.length, rfl, ?_, p ι H _ .refl rel (rint _ _ _)⟩
      rcases sq with sq | sq
      · exact .inl ⟨vs, sq, r.length⟩
      · exact .inr ⟨vs, sq, r.length⟩
    | none =>
      simp only [es] at p
      split at p
      · split at p
        · rename_i z hz
          rw [rs q]
          exact ⟨.str z, z.length, rfl, ⟨by rw [sz_eq]; exact hz, rfl⟩, p ι H _ .refl rel (rint _ _ _)⟩
        · exact p.elim
      · exact p.elim
  · exact p.elim
/-! list(range(..)) -/
def mListRg (fin : List MV → MH → R MV) (lc : List MV × (MH → Bool)) (h : MH) : R MV := fin lc.1 h
def mList (fin : List MV → MH → R MV) (as : List MV) (h : MH) : R MV := match as with
  | [a] => match asS a h with
    | some l => fin l h
    | none => .bad
  | _ => .bad
theorem p_list {fin : List MV → MH → R MV} (hf : FinN c fin) : PN c (fun xs H Q => ∃ p ys, xs = [.ref p] ∧ (SqL c.K H p ys ∨ SqT c.K H p ys) ∧ ∀ l, H l = none → Q (.ref l) (upd H l (.lst ys))) (mList fin) := fun ι β H mh as xs Q W rel ra p => by
  unfold mList at p
  split at p
  · rename_i a
    obtain ⟨v, rfl, q⟩ := Vs1 ra
    cases es : asS a mh with
    | some l =>
      simp only [es] at p
      obtain ⟨b, vs, rfl, sq, r⟩ := asS_rep es rel q
      exact ⟨b, vs, rfl, sq, fun z hz => hf _ _ _ _ _ _ _ _ _ rel r hz p⟩
    | none => simp only [es] at p; exact p.elim
  · exact p.elim

/-! ### == of data -/
def toD (h : MH) : Nat → MV → Option PyData
  | 0, _ => none
  | f + 1, m => match m with
    | .non => some .none
    | .bl b => some (.bool b)
    | .int i => some (.int i)
    | .str x => some (.str x)
    | .tup l => (mapO (toD h f) l).map .tuple
    | .lv l => (mapO (toD h f) l).map .list
    | .fz l => (mapO (toD h f) l).map .list
    | .dv _ _ => none
    | .ref n => match h[n]? with
      | some (.lst l) => (mapO (toD h f) l).map .list
      | _ => none
theorem mapO_dp {ι β : List Addr} {H : Hp} {f : MV → Option PyData} (hf : ∀ m d v, f m = some d → RepV c.K ι β H m v → Dp c.K H v d) : ∀ {l : List MV} {ds : List PyData} {vs : List V}, mapO f l = some ds → RepVs c.K ι β H l vs → DpAll c.K H vs ds
  | [], _, _, e, h => by
    simp only [mapO, Option.some.injEq] at e
    subst e
    rw [h.nil_iff]; exact .nil
  | a :: l, _, _, e, h => by
    obtain ⟨v, r, rfl, q, t⟩ := h.cons_iff
    unfold mapO at e
    cases e1 : f a with
    | none => simp [e1] at e
    | some b =>
      cases e2 : mapO f l with
      | none => simp [e1, e2] at e
      | some r' =>
        simp only [e1, e2, Option.some.injEq] at e
        subst e
        exact .cons (hf _ _ _ e1 q) (mapO_dp hf e2 t)
theorem toD_dp {ι β : List Addr} {H : Hp} {mh : MH} (rel : Rel c ι β H mh) : ∀ (f : Nat) (m : MV) (d : PyData) (v : V), toD mh f m = some d → RepV c.K ι β H m v → Dp c.K H v d
  | 0, m, d, v, e, h => by unfold toD at e; cases e
  | f + 1, m, d, v, e, h => by
    unfold toD at e
    cases m with
    | non => cases e; rw [rn h]; exact .non
    | bl b => cases e; rw [rb h]; exact .bl b
    | int i => cases e; rw [ri h]; exact .int i
    | str x => cases e; rw [rs h]; exact .str x
    | dv _ _ => cases e
    | tup l =>
      simp only [Option.map_eq_some_iff] at e
      obtain ⟨ds, e, rfl⟩ := e
      obtain ⟨a, vs, rfl, sq, r⟩ := h.tup_iff
      exact .tup sq (mapO_dp (toD_dp rel f) e r)
    | lv l =>
      simp only [Option.map_eq_some_iff] at e
      obtain ⟨ds, e, rfl⟩ := e
      obtain ⟨a, vs, rfl, sq, r⟩ := asL_rep (l := l) rfl rel h
      exact .lst (.inl (.inl sq)) (mapO_dp (toD_dp rel f) e r)
    | fz l =>
      simp only [Option.map_eq_some_iff] at e
      obtain ⟨ds, e, rfl⟩ := e
      obtain ⟨a, vs, rfl, q, r⟩ := h.fz_iff
      exact .lst q (mapO_dp (toD_dp rel f) e r)
    | ref n =>
      simp only at e
      cases eo : mh[n]? with
      | none => simp only [eo] at e; cases e
      | some o =>
        simp only [eo] at e
        cases o with
        | lst l =>
          simp only [Option.map_eq_some_iff] at e
          obtain ⟨ds, e, rfl⟩ := e
          obtain ⟨a, vs, rfl, sq, r⟩ := asL_rep (v := .ref n) (l := l) (by unfold asL; simp only [eo]) rel h
          exact .lst (.inl (.inl sq)) (mapO_dp (toD_dp rel f) e r)
        | dct _ => cases e
        | fdc _ => cases e
        | ins _ _ => cases e
def eqMV (neg : Bool) (a b : MV) (h : MH) : R MV := match toD h 12 a, toD h 12 b with
  | some d, some e => if (SeqAt.shaped d && SeqAt.shaped e) = true then .ok (.bl (if neg then !PyData.eqv d e else PyData.eqv d e)) h else .bad
  | _, _ => .bad
def mEq := eqMV false
def mNe := eqMV true
theorem p_eq : P2 c (rEqD c.K) mEq := fun ι β H mh a b x y Q W rel ra rb p => by
  unfold mEq eqMV at p
  split at p
  · rename_i d e h1 h2
    split at p
    · rename_i hs
      rw [Bool.and_eq_true] at hs
      exact ⟨d, e, toD_dp rel _ _ _ _ h1 ra, toD_dp rel _ _ _ _ h2 rb, hs.1, hs.2, p ι H _ .refl rel (rbl _ _ _)⟩
    · exact p.elim
  · exact p.elim
theorem p_ne : P2 c (rNeD c.K) mNe := fun ι β H mh a b x y Q W rel ra rb p => by
  unfold mNe eqMV at p
  split at p
  · rename_i d e h1 h2
    split at p
    · rename_i hs
      rw [Bool.and_eq_true] at hs
      exact ⟨d, e, toD_dp rel _ _ _ _ h1 ra, toD_dp rel _ _ _ _ h2 rb, hs.1, hs.2, p ι H _ .refl rel (rbl _ _ _)⟩
    · exact p.elim
  · exact p.elim
/-! ### is -/
def mIsN (neg : Bool) (a b : MV) (h : MH) : R MV := match b with
  | .non => match a with
    | .non => .ok (.bl (!neg)) h
    | _ => .ok (.bl neg) h
  | .bl k => match a with
    | .bl j => .ok (.bl (if neg then !decide (j = k) else decide (j = k))) h
    | _ => .bad
  | _ => .bad
def mIs := mIsN false
def mIsNot := mIsN true
def rIsA : R2 := fun x y H Q => (y = .non ∧ Q (.bl (decide (x = .non))) H) ∨ (∃ a b, x = .bl a ∧ y = .bl b ∧ Q (.bl (decide (a = b))) H)
def rIsNotA : R2 := fun x y H Q => (y = .non ∧ Q (.bl (!decide (x = .non))) H) ∨ (∃ a b, x = .bl a ∧ y = .bl b ∧ Q (.bl (!decide (a = b))) H)
theorem op_isA : OpR X (compareOp .Is) rIsA := op_isN.or op_is_bl
theorem op_isNotA : OpR X (compareOp .IsNot) rIsNotA := op_notN.or op_isnot_bl
theorem rep_non_iff {ι β : List Addr} {H : Hp} {a : MV} {x : V} (h : RepV c.K ι β H a x) : (x = .non) ↔ a = .non := by
  cases a with
  | non => rw [rn h]; simp
  | bl b => rw [rb h]; simp
  | int b => rw [ri h]; simp
  | str b => rw [rs h]; simp
  | tup l => unfold RepV at h; obtain ⟨a, vs, rfl, _⟩ := h; simp
  | lv l => unfold RepV at h; obtain ⟨a, vs, rfl, _⟩ := h; simp
  | fz l => unfold RepV at h; obtain ⟨a, vs, rfl, _⟩ := h; simp
  | dv l r => unfold RepV at h; obtain ⟨a, vs, rfl, _⟩ := h; simp
  | ref n => unfold RepV at h; obtain ⟨a, rfl, _⟩ := h; simp
theorem p_is : P2 c rIsA mIs := fun ι β H mh a b x y Q W rel ra rb' p => by
  cases b with
  | non =>
    refine .inl ⟨rn rb', ?_⟩
    cases a with
    | non => rw [rn ra]; exact p ι H _ .refl rel (rbl _ _ _)
    | _ => rw [decide_eq_false (fun z => by have := (rep_non_iff ra).mp z; cases this)]; exact p ι H _ .refl rel (rbl _ _ _)
  | bl k =>
    cases a with
    | bl j => exact .inr ⟨j, k, rb ra, rb rb', p ι H _ .refl rel (rbl _ _ _)⟩
    | _ => exact p.elim
  | _ => exact p.elim
theorem p_isnot : P2 c rIsNotA mIsNot := fun ι β H mh a b x y Q W rel ra rb' p => by
  cases b with
  | non =>
    refine .inl ⟨rn rb', ?_⟩
    cases a with
    | non => rw [rn ra]; exact p ι H _ .refl rel (rbl _ _ _)
    | _ => rw [decide_eq_false (fun z => by have := (rep_non_iff ra).mp z; cases this)]; exact p ι H _ .refl rel (rbl _ _ _)
  | bl k =>
    cases a with
    | bl j => exact .inr ⟨j, k, rb ra, rb rb', p ι H _ .refl rel (rbl _ _ _)⟩
    | _ => exact p.elim
  | _ => exact p.elim
end
end MP

/-! Mirror layer, part 7: isinstance, list(range(..)), sorted, methods of lists, stores into lists. -/
namespace MP
open PySem PySem.Spec PyProof.Rows L2

/-! ### isinstance -/
inductive TyN where
  | non | bl | int | str | tup | lst | dct
  deriving DecidableEq
def TyN.name : TyN → String
  | .non => "NoneType"
  | .bl => "bool"
  | .int => "int"
  | .str => "str"
  | .tup => "tuple"
  | .lst => "list"
  | .dct => "dict"
def subN (a b : TyN) : Bool := match a, b with
  | .non, .non => true
  | .bl, .bl => true
  | .bl, .int => true
  | .int, .int => true
  | .str, .str => true
  | .tup, .tup => true
  | .lst, .lst => true
  | .dct, .dct => true
  | _, _ => false
theorem kit_tab : ∀ a b : TyN, kitB a.name b.name = some (subN a b) := by
  intro a b
  cases a <;> cases b <;> decide +kernel
def tyN (v : MV) (h : MH) : Option TyN := match v with
  | .non => some .non
  | .bl _ => some .bl
  | .int _ => some .int
  | .str _ => some .str
  | .tup _ => some .tup
  | .lv _ => some .lst
  | .fz _ => some .lst
  | .dv _ _ => some .dct
  | .ref n => match h[n]? with
    | some (.lst _) => some .lst
    | some (.dct _) => some .dct
    | some (.fdc _) => some .dct
    | _ => none
section
variable {c : C} {X : Cx} {W : WX}
theorem tyN_rep {v : MV} {h : MH} {t : TyN} {ι β : List Addr} {H : Hp} {x : V} (e : tyN v h = some t) (rel : Rel c ι β H h) (rv : RepV c.K ι β H v x) : TyX c.K H x (.type t.name) := by
  cases v with
  | non => cases e; rw [rn rv]; exact .base .non
  | bl b => cases e; rw [rb rv]; exact .base (.bl _)
  | int i => cases e; rw [ri rv]; exact .base (.int _)
  | str z => cases e; rw [rs rv]; exact .base (.str _)
  | tup l =>
    cases e
    unfold RepV at rv
    obtain ⟨a, vs, rfl, q, r⟩ := rv
    rcases q with ⟨q, _⟩ | ⟨o, its, n, hk, hc, hd, hz, hv⟩
    · exact .base (.tup q)
    · exact .kTuple hk hc
  | lv l =>
    cases e
    unfold RepV at rv
    obtain ⟨a, vs, rfl, ⟨q, _⟩, r⟩ := rv
    exact .base (.lst q)
  | fz l =>
    cases e
    unfold RepV at rv
    obtain ⟨a, vs, rfl, q, r⟩ := rv
    rcases q with ⟨⟨o, q⟩, _⟩ | ⟨o, its, n, hk, hc, hd, hz, hv⟩
    · exact .base (.frz q)
    · exact .kList hk hc
  | dv l r =>
    cases e
    unfold RepV at rv
    obtain ⟨a, vs, rfl, ⟨⟨o, q, iv⟩, _⟩, r⟩ := rv
    rcases iv with rfl | ⟨od, rfl⟩
    · exact .base (.dK q)
    · exact .fDict q
  | ref n =>
    unfold RepV at rv
    obtain ⟨a, rfl, ea⟩ := rv
    obtain ⟨o, eo, ro⟩ := rel.at ea
    unfold tyN at e
    simp only [eo] at e
    cases o with
    | lst l => cases e; obtain ⟨vs, q, _⟩ := ro; exact .base (.lst q)
    | dct l => cases e; obtain ⟨vs, q, _⟩ := ro; exact .base (.dK q)
    | fdc l => cases e; obtain ⟨od, vs, q, _⟩ := ro; exact .fDict q
    | ins _ _ => cases e
def isT (T : TyN) (a : MV) (h : MH) : R MV := match tyN a h with
  | some t => .ok (.bl (subN t T)) h
  | none => .bad
theorem e_isi (T : TyN) {a : Expr} {ra : EM} {tn : Str} {p p2 pos : Pos} (hK : X.K = c.K) (hg : Gl X "isinstance") (hm : X.mg "isinstance" = none) (hgt : Gl X tn) (hmt : X.mg tn = none) (hv : bootBuiltins tn = some (.type T.name)) (hb : bootBuiltins "isinstance" = some (.builtin "isinstance")) (ha : PE X a (tE c W ra))
    (hn : tn ≠ "__name__" := by decide) (hd : (tn == ("__debug__" : Str)) = false := by decide)
    (he : starEach [a, .Name tn p2] X.env = (false, eval a X.env) :: starEach [.Name tn p2] X.env := by rfl) (he2 : starEach [.Name tn p2] X.env = (false, eval (.Name tn p2) X.env) :: starEach [] X.env := by rfl) (hpl : (backTo pos (starEach [.Name tn p2] X.env)).any (·.1) = false := by rfl) :
    PE X (.Call (.Name "isinstance" p) [a, .Name tn p2] [] pos) (tE c W (m1 (isT T) ra)) :=
  (pe_callB call_isi hg hm hb (pa_cons ha (pa_cons (pe_bltn (v := .ty T.name) (u := .type T.name) hgt hmt hv rfl hn hd) pa_nil he2) he) (by decide) (by decide) he hpl).wk fun σ H Q ⟨ι, β, mh, σm, rel, rl, p⟩ => by
    refine (run1 rel rl p).mono fun x H1 ⟨ι1, mh1, v, f1, rel1, rl1, rv, p1⟩ => ?_
    unfold isT at p1
    cases et : tyN v mh1 with
    | none => simp only [et] at p1; exact p1.elim
    | some t =>
      simp only [et] at p1
      exact ⟨x, .ty T.name, .type t.name, .type T.name, subN t T, rfl, .ty _, by rw [hK]; exact tyN_rep et rel1 rv, kit_ty (kit_tab t T), p1 ι1 H1 _ .refl rel1 (rbl _ _ _)⟩

/-! ### list(range(..)) -/
def rgL (a b : Int) : List MV := (List.range (b - a).toNat).map fun i => MV.int (a + (i : Nat))
theorem rg_rep {ι β : List Addr} {H : Hp} (a b : Int) : RepVs c.K ι β H (rgL a b) (rgV a b) := by
  unfold rgL rgV
  generalize (List.range (b - a).toNat) = l
  induction l with
  | nil => exact .nil
  | cons i l ih => exact .cons (rint _ _ _) ih
def mkRg (fin : List MV → MH → R MV) (a b : Int) (h : MH) : R MV := if (inB a && inB b && decide ((b - a).toNat ≤ SZ)) = true then fin (rgL a b) h else .bad
def mRg1 (fin : List MV → MH → R MV) (a : MV) (h : MH) : R MV := match a with
  | .int n => mkRg fin 0 n h
  | _ => .bad
def mRg2 (fin : List MV → MH → R MV) (a b : MV) (h : MH) : R MV := match a, b with
  | .int m, .int n => mkRg fin m n h
  | _, _ => .bad
theorem mkRg_of {fin : List MV → MH → R MV} (hf : FinN c fin) {ι β : List Addr} {H : Hp} {mh : MH} {a b : Int} {Q : VK} {W : Value → Option Addr → Hp → Prop} (rel : Rel c ι β H mh) (p : Post c ι β H (RV c) Q W (mkRg fin a b mh)) : RgOk a b ∧ ∀ q, H q = none → Q (.ref q) (upd H q (.lst (rgV a b))) := by
  unfold mkRg at p
  split at p
  · rename_i h
    simp only [Bool.and_eq_true, decide_eq_true_eq] at h
    obtain ⟨h1, h2⟩ := inB_iff h.1.1
    obtain ⟨h3, h4⟩ := inB_iff h.1.2
    exact ⟨⟨h1, h2, h3, h4, h.2⟩, fun q hq => hf _ _ _ _ _ _ _ _ _ rel (rg_rep a b) hq p⟩
  · exact p.elim
variable {a b e : Expr} {ra rb re : EM} {fin : List MV → MH → R MV} {pos p p2 pos2 : Pos}
theorem e_listRg1 (hf : FinN c fin) (hc : X.calm = true) (hg : Gl X "list") (hm : X.mg "list" = none) (hg2 : Gl X "range") (hm2 : X.mg "range" = none) (ha : PE X a (tE c W ra)) (na : starEach [a] X.env = (false, eval a X.env) :: starEach [] X.env := by rfl)
    (nb : starEach [.Call (.Name "range" p2) [a] [] pos2] X.env = (false, eval (.Call (.Name "range" p2) [a] [] pos2) X.env) :: starEach [] X.env := by rfl) :
    PE X (.Call (.Name "list" p) [.Call (.Name "range" p2) [a] [] pos2] [] pos) (tE c W (m1 (mRg1 fin) ra)) :=
  (pe_listRg hc hg hm (prg_1 hg2 hm2 ha na) nb).wk fun σ H Q ⟨ι, β, mh, σm, rel, rl, p⟩ => by
    refine (run1 rel rl p).mono fun x H1 ⟨ι1, mh1, v, f1, rel1, rl1, rv, p1⟩ => ?_
    cases v with
    | int n => exact ⟨n, ri rv, mkRg_of hf rel1 p1⟩
    | _ => exact p1.elim
theorem e_listRg2 (hf : FinN c fin) (hc : X.calm = true) (hg : Gl X "list") (hm : X.mg "list" = none) (hg2 : Gl X "range") (hm2 : X.mg "range" = none) (ha : PE X a (tE c W ra)) (hb : PE X b (tE c W rb)) (na : starEach [a, b] X.env = (false, eval a X.env) :: starEach [b] X.env := by rfl) (nb : starEach [b] X.env = (false, eval b X.env) :: starEach [] X.env := by rfl)
    (hp : (backTo pos2 (starEach [b] X.env)).any (·.1) = false := by rfl)
    (nc : starEach [.Call (.Name "range" p2) [a, b] [] pos2] X.env = (false, eval (.Call (.Name "range" p2) [a, b] [] pos2) X.env) :: starEach [] X.env := by rfl) :
    PE X (.Call (.Name "list" p) [.Call (.Name "range" p2) [a, b] [] pos2] [] pos) (tE c W (m2 (mRg2 fin) ra rb)) :=
  (pe_listRg hc hg hm (prg_2 hg2 hm2 ha hb na nb hp) nc).wk fun σ H Q ⟨ι, β, mh, σm, rel, rl, p⟩ => by
    refine (run1 rel rl p).mono fun x H1 ⟨ι1, mh1, v, f1, rel1, rl1, rv, p1⟩ => ?_
    refine (run1 rel1 rl1 p1).mono fun y H2 ⟨ι2, mh2, w, f2, rel2, rl2, rw', p2⟩ => ?_
    cases v with
    | int m =>
      cases w with
      | int n => exact ⟨m, n, by rw [ri rv], ri rw', mkRg_of hf rel2 p2⟩
      | _ => exact p2.elim
    | _ => cases w <;> exact p2.elim

/-! ### sorted, of ints -/
def insI (x : Int) : List Int → List Int
  | [] => [x]
  | y :: r => if x ≤ y then x :: y :: r else y :: insI x r
def isortI : List Int → List Int
  | [] => []
  | x :: r => insI x (isortI r)
theorem insI_perm (x : Int) : ∀ l : List Int, (insI x l).Perm (x :: l)
  | [] => .refl _
  | y :: r => by
    unfold insI
    split
    · exact .refl _
    · exact ((insI_perm x r).cons y).trans (.swap _ _ _)
theorem isortI_perm : ∀ l : List Int, (isortI l).Perm l
  | [] => .refl _
  | x :: r => (insI_perm x _).trans ((isortI_perm r).cons x)
theorem insI_sorted (x : Int) : ∀ {l : List Int}, l.Pairwise (· ≤ ·) → (insI x l).Pairwise (· ≤ ·)
  | [], _ => by simp [insI]
  | y :: r, h => by
    unfold insI
    rw [List.pairwise_cons] at h
    split
    · rename_i hx
      refine List.pairwise_cons.mpr ⟨fun z hz => ?_, List.pairwise_cons.mpr h⟩
      rcases List.mem_cons.mp hz with rfl | hz
      · exact hx
      · have := h.1 z hz; omega
    · refine List.pairwise_cons.mpr ⟨fun z hz => ?_, insI_sorted x h.2⟩
      rcases List.mem_cons.mp ((insI_perm x r).mem_iff.mp hz) with rfl | hz
      · omega
      · exact h.1 z hz
theorem isortI_sorted : ∀ l : List Int, (isortI l).Pairwise (· ≤ ·)
  | [] => .nil
  | x :: r => insI_sorted x (isortI_sorted r)
theorem sorted_unique : ∀ {l r : List Int}, l.Perm r → l.Pairwise (· ≤ ·) → r.Pairwise (· ≤ ·) → l = r
  | [], r, p, _, _ => by have := p.length_eq; cases r with | nil => rfl | cons _ _ => simp at this
  | x :: l, [], p, _, _ => by have := p.length_eq; simp at this
  | x :: l, y :: r, p, h1, h2 => by
    rw [List.pairwise_cons] at h1 h2
    have e : x = y := by
      have a : x ∈ y :: r := p.mem_iff.mp List.mem_cons_self
      have b : y ∈ x :: l := p.mem_iff.mpr List.mem_cons_self
      rcases List.mem_cons.mp a with e | a
      · exact e
      · rcases List.mem_cons.mp b with e | b
        · exact e.symm
        · have := h1.1 y b; have := h2.1 x a; omega
    subst e
    rw [sorted_unique (p.cons_inv) h1.2 h2.2]
def ints? : List MV → Option (List Int)
  | [] => some []
  | .int i :: r => match ints? r with
    | some l => some (i :: l)
    | none => none
  | _ :: _ => none
theorem ints?_eq : ∀ {l : List MV} {ns : List Int}, ints? l = some ns → l = ns.map .int
  | [], ns, e => by simp only [ints?, Option.some.injEq] at e; subst e; rfl
  | m :: r, ns, e => by
    cases m with
    | int i =>
      simp only [ints?] at e
      cases h : ints? r with
      | none => rw [h] at e; cases e
      | some l => rw [h] at e; cases e; rw [ints?_eq h]; rfl
    | _ => cases e
@[simp] theorem ints?_map (ns : List Int) : ints? (ns.map MV.int) = some ns := by
  induction ns with
  | nil => rfl
  | cons n ns ih => simp [ints?, ih]
def mSortI (fin : List MV → MH → R MV) (as : List MV) (h : MH) : R MV := match as with
  | [a] => match asS a h with
    | some l => match a with
      | .tup _ => .bad
      | _ => match ints? l with
        | some ns => fin ((isortI ns).map .int) h
        | none => .bad
    | none => .bad
  | _ => .bad
theorem p_sortI (hf : FinN c fin) : PN c (rSortedI c.K) (mSortI fin) := fun ι β H mh as xs Q W rel ra p => by
  unfold mSortI at p
  split at p
  · rename_i a
    obtain ⟨v, rfl, q⟩ := Vs1 ra
    cases es : asS a mh with
    | none => simp only [es] at p; exact p.elim
    | some l =>
      simp only [es] at p
      have key : Post c ι β H (RV c) Q W (match ints? l with | some ns => fin ((isortI ns).map .int) mh | none => .bad) → (∃ b vs, v = .ref b ∧ SqL c.K H b vs ∧ RepVs c.K ι β H l vs) → rSortedI c.K [v] H Q := fun pk ⟨b, vs, e, sq, r⟩ => by
        clear p
        cases ei : ints? l with
        | none => simp only [ei] at pk; exact pk.elim
        | some ns =>
          simp only [ei] at pk
          have := ints?_eq ei
          subst this
          have e2 := r.of_ints
          subst e2
          refine ⟨b, ns, by rw [e], sq, fun ns' z hp hs hz => ?_⟩
          have e3 : ns' = isortI ns := sorted_unique (hp.trans (isortI_perm ns).symm) hs (isortI_sorted ns)
          subst e3
          exact hf _ _ _ _ _ _ _ _ _ rel .ints hz pk
      cases a with
      | tup _ => exact p.elim
      | lv l' =>
        obtain ⟨b, vs, e1, sq, r⟩ := asL_rep (v := .lv l') (l := l) (by cases es; rfl) rel q
        exact key p ⟨b, vs, e1, .inl (.inl sq), r⟩
      | fz l' =>
        obtain ⟨b, vs, rfl, q2, r⟩ := q.fz_iff
        cases es
        exact key p ⟨b, vs, rfl, q2, r⟩
      | ref n =>
        obtain ⟨b, vs, e1, sq, r⟩ := asL_rep (v := .ref n) (l := l) (by unfold asS at es; unfold asL; exact es) rel q
        exact key p ⟨b, vs, e1, .inl (.inl sq), r⟩
      | _ => cases es
  · exact p.elim

/-! ### methods of lists -/
def setH (h : MH) (n : Nat) (o : MO) : MH := h.set n o
def mMeth (f : MV → List MV → MH → R MV) (ro : EM) (rs : AM) : EM := fun σ h => bindR (ro σ h) fun a h1 => match asL a h1 with
  | some _ => bindR (rs σ h1) fun as h2 => f a as h2
  | none => .bad
def PMt (c : C) (r : V → List V → Hp → VK → Prop) (f : MV → List MV → MH → R MV) : Prop := ∀ ι β H mh a as x xs Q W, Rel c ι β H mh → RepV c.K ι β H a x → RepVs c.K ι β H as xs → Post c ι β H (RV c) Q W (f a as mh) → r x xs H Q
theorem e_methL {id name : String} {r : V → List V → Hp → VK → Prop} {f : MV → List MV → MH → R MV} {o : Expr} {ro : EM} {es : List Expr} {rs : AM} {apos cpos : Pos} (hK : X.K = c.K) (slot : Slot "list" name id) (hty : typeOf (.builtin id) = pure (.type "method_descriptor")) (hm : MtR X id r) (hp : PMt c r f) (ho : PE X o (tE c W ro)) (ha : PA X (e :: es) (tA c W rs))
    (hbase : attributeBase o name X.env (eval o X.env) = eval o X.env := by rfl)
    (hfew : ((backTo cpos (starEach (e :: es) X.env)).all (fun x => !x.1) && (backToKw cpos (keywordEach [] X.env)).all (fun x => x.1.isSome)
      && decide ((e :: es).length + ([] : List Keyword).length + (if ([] : List Keyword).isEmpty then 0 else 1) < 30)) = true := by rfl)
    (hline : (apos.endLine == cpos.line) = true := by rfl) (hs : starEach (e :: es) X.env = (false, eval e X.env) :: starEach es X.env := by rfl) (hplain : (backTo cpos (starEach es X.env)).any (·.1) = false := by rfl) :
    PE X (.Call (.Attribute o name apos) (e :: es) [] cpos) (tE c W (mMeth f ro rs)) :=
  (pe_bm PySem.F.plainAttrs_list slot hty hm ho ha hbase hfew hline hs hplain).wk fun σ H Q ⟨ι, β, mh, σm, rel, rl, p⟩ => by
    refine (run1 rel rl p).mono fun x H1 ⟨ι1, mh1, v, f1, rel1, rl1, rv, p1⟩ => ?_
    cases el : asL v mh1 with
    | none => simp only [el] at p1; exact p1.elim
    | some l =>
      simp only [el] at p1
      obtain ⟨b, vs, rfl, sq, r⟩ := asL_rep el rel1 rv
      refine ⟨.inl ⟨rfl, vs, .inl (.inl sq)⟩, ?_⟩
      exact (run1 rel1 rl1 p1).mono fun xs H2 ⟨ι2, mh2, as, f2, rel2, rl2, ra, p2⟩ => hp _ _ _ _ _ _ _ _ _ _ rel2 (rv.mono f2) ra p2
def mAppend (a : MV) (as : List MV) (h : MH) : R MV := match a, as with
  | .ref n, [y] => match h[n]? with
    | some (.lst l) => if l.length < SZ then .ok .non (setH h n (.lst (l ++ [y]))) else .bad
    | _ => .bad
  | _, _ => .bad
theorem p_append : PMt c rAppend mAppend := fun ι β H mh a as x xs Q W rel ra ras p => by
  unfold mAppend at p
  split at p
  · rename_i n y
    cases eo : mh[n]? with
    | none => simp only [eo] at p; exact p.elim
    | some o =>
      simp only [eo] at p
      cases o with
      | lst l =>
        simp only at p
        split at p
        · rename_i hl
          unfold RepV at ra
          obtain ⟨b, rfl, ea⟩ := ra
          obtain ⟨o2, e2, ro⟩ := rel.at ea
          rw [eo] at e2; cases e2
          obtain ⟨vs, hv, r⟩ := ro
          obtain ⟨w, rfl, qw⟩ := Vs1 ras
          refine ⟨b, vs, w, rfl, rfl, hv, by rw [← r.length, sz_eq]; exact hl, ?_⟩
          have nf : ∀ o u, H b ≠ some (.frz o u) := fun o u z => by rw [hv] at z; cases z
          have f := Fr.put (o := .lst (vs ++ [w])) ea nf
          exact p ι _ _ f (rel.put ea nf ⟨_, upd_same, (r.append (.cons qw .nil)).mono f⟩) (rnon _ _ _)
        · exact p.elim
      | dct _ => exact p.elim
      | fdc _ => exact p.elim
      | ins _ _ => exact p.elim
  · exact p.elim

/-! ### stores into lists -/
def sSetIx (rv ro ri : EM) : SM := fun σ h => bindS (rv σ h) σ fun v h1 => bindS (ro σ h1) σ fun o h2 => bindS (ri σ h2) σ fun i h3 => match o, i with
  | .ref n, .int k => match h3[n]? with
    | some (.lst l) => match ixN l.length k with
      | some j => .nx σ (setH h3 n (.lst (l.set j v)))
      | none => .bad
    | _ => .bad
  | _, _ => .bad
theorem s_setL {o i : Expr} {rv ro ri : EM} (he : PE X e (tE c W rv)) (ho : PE X o (tE c W ro)) (hi : PE X i (tE c W ri))
    (ha : ∀ v, assign (.Subscript o i p) X.env v = (do
      let ov ← holding [v] (eval o X.env)
      let iv ← holding [v, ov] (eval i X.env)
      standAt p
      holding [v, ov, iv] (setItem ov iv v)
      release [v, ov, iv] []) := by intro _; rfl)
    (hs : swapsWithSole [.Subscript o i p] e pos.line X.env = pure false := by rfl) (hw : swappedStores [.Subscript o i p] e X.env = pure none := by rfl)
    (h1 : (assignEach [.Subscript o i p] X.env).map (·.2) = [assign (.Subscript o i p) X.env] := by rfl) : PS X (.Assign [.Subscript o i p] e pos) (tS c W (sSetIx rv ro ri)) :=
  (ps_asg he (pg_sub ho hi set_list ha) hs hw h1).wk fun D σ H ⟨ι, β, mh, σm, rel, rl, q⟩ => by
    refine (run1S rel rl q).mono fun v H1 ⟨ι1, mh1, m, f1, rel1, rl1, rm, p1⟩ => ?_
    refine (run1S rel1 rl1 p1).mono fun x H2 ⟨ι2, mh2, mo, f2, rel2, rl2, rmo, p2⟩ => ?_
    refine (run1S rel2 rl2 p2).mono fun y H3 ⟨ι3, mh3, mi, f3, rel3, rl3, rmi, p3⟩ => ?_
    cases mo with
    | ref n =>
      cases mi with
      | int k =>
        simp only at p3
        cases eo : mh3[n]? with
        | none => simp only [eo] at p3; exact p3.elim
        | some ob =>
          simp only [eo] at p3
          cases ob with
          | lst l =>
            simp only at p3
            cases ej : ixN l.length k with
            | none => simp only [ej] at p3; exact p3.elim
            | some j =>
              simp only [ej] at p3
              have rmo' := rmo.mono f3
              unfold RepV at rmo'
              obtain ⟨b, rfl, ea⟩ := rmo'
              obtain ⟨o2, e2, ro⟩ := rel3.at ea
              rw [eo] at e2; cases e2
              obtain ⟨vs, hv, r⟩ := ro
              refine ⟨b, vs, k, j, rfl, MP.ri rmi, hv, by rw [← r.length]; exact ej, ?_⟩
              have nf : ∀ o u, H3 b ≠ some (.frz o u) := fun o u z => by rw [hv] at z; cases z
              have f := Fr.put (o := .lst (vs.set j v)) ea nf
              exact p3 ι3 _ _ f (rel3.put ea nf ⟨_, upd_same, (RepVs.set ((rm.mono f2).mono f3) j r).mono f⟩) (rl3.mono f)
          | dct _ => exact p3.elim
          | fdc _ => exact p3.elim
          | ins _ _ => exact p3.elim
      | _ => exact p3.elim
    | _ => cases mi <;> exact p3.elim
end
end MP

/-! Mirror layer, part 8: truth; the law's end. -/
namespace MP
open PySem PySem.Spec PyProof.Rows L2
section
variable {c : C} {X : Cx} {W : WX} {a : Expr} {ra : EM}
@[simp] def isTru (v : MV) (h : MH) : R Bool := match v with
  | .bl b => .ok b h
  | .int i => .ok (i != 0) h
  | .non => .ok false h
  | _ => .bad
@[simp] def mTru (r : EM) : TM := fun σ h => bindR (r σ h) isTru
theorem t_tru (ha : PE X a (tE c W ra)) (he : ∀ whole, isTrue a X.env whole = (do let v ← whole; standAt a.pos; holding [v] (truthy v)) := by intro _; rfl) : PT X a (tT c W (mTru ra)) :=
  (pt_truth ha he).wk fun σ H Q ⟨ι, β, mh, σm, rel, rl, p⟩ => by
    refine (run1 rel rl p).mono fun x H1 ⟨ι1, mh1, v, f1, rel1, rl1, rv, p1⟩ => ?_
    cases v with
    | bl b => exact ⟨b, by rw [rb rv]; rfl, p1 ι1 H1 b .refl rel1 rfl⟩
    | int i => exact ⟨_, by rw [ri rv]; rfl, p1 ι1 H1 _ .refl rel1 rfl⟩
    | non => exact ⟨_, by rw [rn rv]; rfl, p1 ι1 H1 _ .refl rel1 rfl⟩
    | _ => exact p1.elim
end
/-- the law's promise -/
def spLaw (K : PySem.W.Frag) : Sp := fun vs H Q _ => ∃ (a : Addr) (ns : List Int), vs = [.ref a] ∧ ns.length ≤ 63 ∧ Only H ∧ SqL K H a (ns.map V.int) ∧ ∀ H', Q (.bl true) H'
/-- from the mirror to the law's promise -/
theorem law_end {P : Program} {w : World} {mg : Str → Option Value} {base : Heap} {CX : CXT} {k : Nat} {f : Addr} {fd : FuncData} {ps : List Str} {c : C} {m : List MV → MH → R MV} (F : FnG P w c.K mg base CX k f fd ps (spM c 1 m)) (h : ∀ ns : List Int, ns.length ≤ 63 → ∃ h', m [.fz (ns.map .int)] [] = .ok (.bl true) h') : FnG P w c.K mg base CX k f fd ps (spLaw c.K) := by
  refine F.weak fun vs H Q E hs => ?_
  obtain ⟨a, ns, rfl, hl, hO, hS, q⟩ := hs
  obtain ⟨h', e⟩ := h ns hl
  refine ⟨rfl, [], [], [], [.fz (ns.map .int)], ⟨rfl, .nil, fun b z => (by simp at z), fun n o z => (by simp at z)⟩, .cons ?_ .nil, ?_⟩
  · unfold RepV
    refine ⟨a, _, rfl, ?_, .ints⟩
    rcases hS with (hS | ⟨o, hS⟩) | hS
    · rcases hO a with z | ⟨o, xs, z⟩
      · rw [z] at hS; cases hS
      · rw [z] at hS; cases hS
    · exact .inl ⟨⟨o, hS⟩, by simp, by simp⟩
    · exact .inr hS
  · rw [e]
    intro ι' H' u f r rv
    rw [rb rv]
    exact q H'
theorem walkM {l : PySem.W.OpenLaw} {q : Program} {loose : List Str} {XP : (Str → Option Value) → Heap → Prop} {YP : World → Heap → Prop} {d : DefRec} {K : Params → PySem.W.Frag} {k : Nat} (hn : l.most = some 63) (hdf : d.params.defaults = []) (hr : Room k callerA)
    (hY : ∀ (w : World) (h : Heap), YP w h → (K w.params).In h)
    (F : ∀ (w : World) (mg : Str → Option Value) (fa : Addr) (h : Heap), (K w.params).In h → h.Ns mainGlobals mg → mg d.name = some (.ref fa) →
      ∃ fd : FuncData, (∀ (s : Shared) (u : Value), BindsTo s fd ⟨[u], []⟩ [("_law_script", u)]) ∧ ∀ base : Heap, (K w.params).In base → base.Ns mainGlobals mg → FnG l.prog w (K w.params) mg base (L2.CX l.prog w) k fa fd ["_law_script"] (spLaw (K w.params))) :
    PySem.W.WalkO q loose XP YP l.row.toRowW d [] (fun f vs => PySem.call f vs) :=
  walkG (n := 63) (k := k) (x := "_law_script") (CX := fun w => L2.CX l.prog w) (sp := fun w => spLaw (K w.params)) hn (by decide) hdf hr hY F (fun _ _ a ns hl hO hS => ⟨a, ns, rfl, hl, hO, hS, fun _ => rfl⟩) (fun _ _ _ _ _ h => by
    obtain ⟨_, _, _, _, _, _, _, _, _, _, _, _, z⟩ := h
    exact z.elim)
end MP

/-! Mirror layer, part 8x: dicts; subscripts and stores of lists and dicts; *; ==; reversed slices; a, b = x, y. -/
namespace MP
open PySem PySem.Spec PyProof.Rows L2

/-! ### dicts -/
def lookKV : List (MV × MV) → MV → Option MV
  | [], _ => none
  | (k, m) :: r, y => if beqV k y = true then some m else lookKV r y
def putKV : List (MV × MV) → MV → MV → List (MV × MV)
  | [], y, v => [(y, v)]
  | (k, m) :: r, y, v => if beqV k y = true then (k, v) :: r else (k, m) :: putKV r y v
def dropKV : List (MV × MV) → MV → List (MV × MV)
  | [], _ => []
  | (k, m) :: r, y => if beqV k y = true then r else (k, m) :: dropKV r y
theorem mkey_beq {k y : MV} {a b : Key} (h1 : mkey k = some a) (h2 : mkey y = some b) : beqV k y = decide (a = b) := by
  cases k <;> cases y <;> simp only [mkey, Option.some.injEq] at h1 h2 <;> try cases h1
  all_goals try cases h2
  all_goals simp [beqV]
section
variable {c : C} {X : Cx} {W : WX}
theorem look_rep {ι β : List Addr} {H : Hp} {y : MV} {b : Key} (hy : mkey y = some b) : ∀ {kvs : List (MV × MV)} {l : List (Key × V)}, RepKV c.K ι β H kvs l →
    (∀ m, lookKV kvs y = some m → ∃ v, valV l b = some v ∧ RepV c.K ι β H m v) ∧ (lookKV kvs y = none → valV l b = none)
  | [], l, h => by
    have e : l = [] := h
    subst e
    exact ⟨fun m e => (by cases e), fun _ => rfl⟩
  | (k, m) :: r, l, h => by
    obtain ⟨k', v, r', rfl, ek, q, t⟩ := h
    obtain ⟨i1, i2⟩ := look_rep hy t
    have eb := mkey_beq ek hy
    unfold lookKV
    rw [eb]
    by_cases z : k' = b
    · rw [if_pos (decide_eq_true z)]
      exact ⟨fun m' e => (by cases e; exact ⟨v, valV_pos z, q⟩), fun e => (by cases e)⟩
    · rw [if_neg (by simp [z])]
      exact ⟨fun m' e => (by rw [valV_neg z]; exact i1 m' e), fun e => (by rw [valV_neg z]; exact i2 e)⟩
/-- no key twice -/
def nodK : List (MV × MV) → Bool
  | [] => true
  | (k, _) :: r => (lookKV r k).isNone && nodK r
theorem put_repA {ι β : List Addr} {H : Hp} {y : MV} {b : Key} {mv : MV} {v : V} (hy : mkey y = some b) (hv : RepV c.K ι β H mv v) : ∀ {kvs : List (MV × MV)} {l : List (Key × V)}, RepKV c.K ι β H kvs l → nodK kvs = true → RepKV c.K ι β H (putKV kvs y mv) (if (l.any fun kv => decide (kv.1 = b)) = true then l.map (fun kv => if kv.1 = b then (kv.1, v) else kv) else l ++ [(b, v)])
  | [], l, h, _ => by
    have e : l = [] := h
    subst e
    exact ⟨b, v, [], rfl, hy, hv, rfl⟩
  | (k, m) :: r, l, h, hn => by
    obtain ⟨k', w, r', rfl, ek, q, t⟩ := h
    unfold nodK at hn
    rw [Bool.and_eq_true] at hn
    have eb := mkey_beq ek hy
    unfold putKV
    rw [eb]
    by_cases z : k' = b
    · subst z
      rw [if_pos (by simp), if_pos (by simp)]
      refine ⟨k', v, r', ?_, ek, hv, t⟩
      have hno : valV r' k' = none := (look_rep ek t).2 (by simpa using hn.1)
      have hx : ∀ p ∈ r', ¬ p.1 = k' := fun p hp e => by
        have := valV_any k' r'
        rw [hno] at this
        simp only [Option.isSome_none, List.any_eq_false, decide_eq_true_eq] at this
        exact this p hp e
      simp only [List.map_cons, if_true]
      congr 1
      have : ∀ (s : List (Key × V)), (∀ p ∈ s, ¬ p.1 = k') → s.map (fun kv => if kv.1 = k' then (kv.1, v) else kv) = s := by
        intro s
        induction s with
        | nil => intro _; rfl
        | cons p s ih =>
          intro h
          rw [List.map_cons, if_neg (h p List.mem_cons_self), ih fun q hq => h q (List.mem_cons_of_mem _ hq)]
      exact this r' hx
    · rw [if_neg (by simp [z])]
      have ih := put_repA hy hv t hn.2
      by_cases hany : (r'.any fun kv => decide (kv.1 = b)) = true
      · rw [if_pos hany] at ih
        rw [if_pos (by simp only [List.any_cons, hany, Bool.or_true])]
        simp only [List.map_cons, if_neg z]
        exact ⟨k', w, _, rfl, ek, q, ih⟩
      · rw [if_neg hany] at ih
        rw [if_neg (by simp only [List.any_cons, Bool.or_eq_true, decide_eq_true_eq]; rintro (h | h); exact z h; exact hany h)]
        exact ⟨k', w, _, rfl, ek, q, ih⟩
theorem put_rep {ι β : List Addr} {H : Hp} {y : MV} {b : Key} {mv : MV} {v : V} (hy : mkey y = some b) (hv : RepV c.K ι β H mv v) {kvs : List (MV × MV)} {l : List (Key × V)} (h : RepKV c.K ι β H kvs l) (hn : nodK kvs = true) : RepKV c.K ι β H (putKV kvs y mv) (putK l b v) := by
  unfold putK
  exact put_repA hy hv h hn
theorem RepKV.length {ι β : List Addr} {H : Hp} : ∀ {kvs : List (MV × MV)} {l : List (Key × V)}, RepKV c.K ι β H kvs l → kvs.length = l.length
  | [], l, h => by have e : l = [] := h; subst e; rfl
  | (k, m) :: r, l, h => by
    obtain ⟨k', v, r', rfl, ek, q, t⟩ := h
    simp [RepKV.length t]
/-- a dict, as it may be read -/
def asD (v : MV) (h : MH) : Option (List (MV × MV)) := match v with
  | .dv ks ws => some (ks.zip ws)
  | .ref n => match h[n]? with
    | some (.dct l) => some l
    | some (.fdc l) => some l
    | _ => none
  | _ => none
theorem asD_rep {v : MV} {h : MH} {kvs : List (MV × MV)} {ι β : List Addr} {H : Hp} {x : V} (e : asD v h = some kvs) (rel : Rel c ι β H h) (rv : RepV c.K ι β H v x) : ∃ a l o, x = .ref a ∧ H a = some o ∧ IsDV o l ∧ RepKV c.K ι β H kvs l := by
  cases v with
  | dv ks ws =>
    cases e
    unfold RepV at rv
    obtain ⟨a, l, rfl, ⟨⟨o, q, iv⟩, _⟩, r1, r2⟩ := rv
    exact ⟨a, l, o, rfl, q, iv, RepKV.zip r1 r2⟩
  | ref n =>
    unfold RepV at rv
    obtain ⟨a, rfl, ea⟩ := rv
    obtain ⟨o, eo, ro⟩ := rel.at ea
    unfold asD at e
    simp only [eo] at e
    cases o with
    | lst l' => cases e
    | dct l' => cases e; obtain ⟨l, q, r⟩ := ro; exact ⟨a, l, _, rfl, q, .inl rfl, r⟩
    | fdc l' => cases e; obtain ⟨od, l, q, r⟩ := ro; exact ⟨a, l, _, rfl, q, .inr ⟨od, rfl⟩, r⟩
    | ins _ _ => cases e
  | _ => cases e
theorem dget_of {H : Hp} {a : Addr} {o : HO} {l : List (Key × V)} (e : H a = some o) (iv : IsDV o l) (k : Key) : DGet H a (kV k) (valV l k) := by
  rcases iv with rfl | ⟨od, rfl⟩
  · exact .inl ⟨l, k, .inl e, rfl, rfl⟩
  · exact .inl ⟨l, k, .inr ⟨od, e⟩, rfl, rfl⟩
theorem mkey_rep {ι β : List Addr} {H : Hp} {m : MV} {k : Key} {v : V} (e : mkey m = some k) (r : RepV c.K ι β H m v) : v = kV k := by
  cases m with
  | int i => cases e; rw [ri r]; rfl
  | str z => cases e; rw [rs r]; rfl
  | _ => cases e

/-! ### x[i] of lists, tuples, texts, dicts -/
theorem PE.or {e : Expr} {t t' : TE} (h : PE X e t) (h' : PE X e t') : PE X e (fun σ H Q => t σ H Q ∨ t' σ H Q) := ⟨fun pins s σ H Q I q => q.elim (h.run pins s σ H Q I) (h'.run pins s σ H Q I)⟩
theorem PS.or {st : Stmt} {t t' : TS} (h : PS X st t) (h' : PS X st t') : PS X st (fun D σ H => t D σ H ∨ t' D σ H) := ⟨fun pins s σ H D I q => q.elim (h.run pins s σ H D I) (h'.run pins s σ H D I)⟩
def mDGet (a b : MV) (h : MH) : R MV := match asD a h with
  | some kvs => match mkey b with
    | some _ => match lookKV kvs b with
      | some v => .ok v h
      | none => .bad
    | none => .bad
  | none => .bad
def isDk (v : MV) (h : MH) : Bool := (asD v h).isSome
def mIxA (a b : MV) (h : MH) : R MV := if isDk a h = true then mDGet a b h else mIx a b h
variable {a b : Expr} {ra rb : EM} {pos : Pos}
def rDGet : R2 := fun x y H Q => ∃ a v, x = .ref a ∧ DGet H a y (some v) ∧ Q v H
theorem p_dget : P2 c rDGet mDGet := fun ι β H mh a b x y Q W rel ra rb p => by
  unfold mDGet at p
  cases ed : asD a mh with
  | none => simp only [ed] at p; exact p.elim
  | some kvs =>
    simp only [ed] at p
    cases ek : mkey b with
    | none => simp only [ek] at p; exact p.elim
    | some k =>
      simp only [ek] at p
      cases el : lookKV kvs b with
      | none => simp only [el] at p; exact p.elim
      | some m =>
        simp only [el] at p
        obtain ⟨q, l, o, rfl, eo, iv, rk⟩ := asD_rep ed rel ra
        obtain ⟨v, ev, rv⟩ := (look_rep ek rk).1 m el
        rw [mkey_rep ek rb]
        exact ⟨q, v, rfl, by rw [← ev]; exact dget_of eo iv k, p ι H v .refl rel rv⟩
theorem e_ixA (hu : X.A.units + 1 < cLine) (hK : X.K = c.K) (ha : PE X a (tE c W ra)) (hb : PE X b (tE c W rb)) (hs : PlainIx b) : PE X (.Subscript a b pos) (tE c W (m2 mIxA ra rb)) :=
  (PE.or (t := tOp rDGet (tE c W ra) (tE c W rb)) (pe_dget hu ha hb hs) (pe_ix ix_seq ha hb hs)).wk fun σ H Q ⟨ι, β, mh, σm, rel, rl, p⟩ => by
    have key : ∃ d : Bool, m2 mIxA ra rb σm mh = if d = true then m2 mDGet ra rb σm mh else m2 mIx ra rb σm mh := by
      unfold m2
      cases ea : ra σm mh with
      | bad => exact ⟨true, rfl⟩
      | ex x h1 => exact ⟨true, rfl⟩
      | ok va h1 =>
        simp only [bindR]
        cases eb : rb σm h1 with
        | bad => exact ⟨true, rfl⟩
        | ex x h1 => exact ⟨true, rfl⟩
        | ok vb h2 => exact ⟨isDk va h2, by simp only [mIxA]⟩
    obtain ⟨d, e⟩ := key
    rw [e] at p
    cases d with
    | true => exact .inl (m2_of p_dget ⟨ι, β, mh, σm, rel, rl, p⟩)
    | false => rw [hK]; exact .inr (m2_of p_ix ⟨ι, β, mh, σm, rel, rl, p⟩)

/-! ### x[i] = v -/
def sSetDx (rv ro ri : EM) : SM := fun σ h => bindS (rv σ h) σ fun v h1 => bindS (ro σ h1) σ fun o h2 => bindS (ri σ h2) σ fun i h3 => match o with
  | .ref n => match h3[n]? with
    | some (.dct kvs) => match mkey i with
      | some _ => if (decide (kvs.length < SZ) && nodK kvs) = true then .nx σ (setH h3 n (.dct (putKV kvs i v))) else .bad
      | none => .bad
    | _ => .bad
  | _ => .bad
def isDct (v : MV) (h : MH) : Bool := match v with
  | .ref n => match h[n]? with
    | some (.dct _) => true
    | _ => false
  | _ => false
def sSetA (rv ro ri : EM) : SM := fun σ h => bindS (rv σ h) σ fun v h1 => bindS (ro σ h1) σ fun o h2 => bindS (ri σ h2) σ fun i h3 =>
  if isDct o h3 = true then sSetDx (fun _ _ => .ok v h3) (fun _ _ => .ok o h3) (fun _ _ => .ok i h3) σ h3 else sSetIx (fun _ _ => .ok v h3) (fun _ _ => .ok o h3) (fun _ _ => .ok i h3) σ h3
theorem sSetDx_of {rv ro ri : EM} {D : Ends} {σ : St} {H : Hp} (h : tS c W (sSetDx rv ro ri) D σ H) : sDPut (tE c W ro) (tE c W ri) (tE c W rv) D σ H := by
    obtain ⟨ι, β, mh, σm, rel, rl, q⟩ := h
    refine (run1S rel rl q).mono fun v H1 ⟨ι1, mh1, m, f1, rel1, rl1, rm, p1⟩ => ?_
    refine (run1S rel1 rl1 p1).mono fun x H2 ⟨ι2, mh2, mo, f2, rel2, rl2, rmo, p2⟩ => ?_
    refine (run1S rel2 rl2 p2).mono fun y H3 ⟨ι3, mh3, mi, f3, rel3, rl3, rmi, p3⟩ => ?_
    cases mo with
    | ref n =>
      simp only at p3
      cases eo : mh3[n]? with
      | none => simp only [eo] at p3; exact p3.elim
      | some ob =>
        simp only [eo] at p3
        cases ob with
        | dct kvs =>
          simp only at p3
          cases ek : mkey mi with
          | none => simp only [ek] at p3; exact p3.elim
          | some k =>
            simp only [ek] at p3
            split at p3
            · rename_i hh
              simp only [Bool.and_eq_true, decide_eq_true_eq] at hh
              have rmo' := rmo.mono f3
              unfold RepV at rmo'
              obtain ⟨b, rfl, ea⟩ := rmo'
              obtain ⟨o2, e2, ro⟩ := rel3.at ea
              rw [eo] at e2; cases e2
              obtain ⟨l, hv, r⟩ := ro
              rw [mkey_rep ek rmi]
              refine ⟨b, _, rfl, DPut.k hv (by rw [← r.length, sz_eq]; exact hh.1), ?_⟩
              have nf : ∀ o u, H3 b ≠ some (.frz o u) := fun o u z => by rw [hv] at z; cases z
              have f := Fr.put (o := .dK (putK l k v)) ea nf
              exact p3 ι3 _ _ f (rel3.put ea nf ⟨_, upd_same, (put_rep ek ((rm.mono f2).mono f3) r hh.2).move f.mov⟩) (rl3.mono f)
            · exact p3.elim
        | lst _ => exact p3.elim
        | fdc _ => exact p3.elim
        | ins _ _ => exact p3.elim
    | _ => exact p3.elim
theorem s_setD {o i e : Expr} {rv ro ri : EM} {p : Pos} (hu : X.A.units + 1 < cLine) (he : PE X e (tE c W rv)) (ho : PE X o (tE c W ro)) (hi : PE X i (tE c W ri))
    (hs : swapsWith e (some (.Subscript o i p)) pos.line X.env = pure false := by rfl) : PS X (.Assign [.Subscript o i p] e pos) (tS c W (sSetDx rv ro ri)) :=
  (ps_dput hu ho hi he hs).wk fun D σ H h => sSetDx_of h
theorem s_setA {o i e : Expr} {rv ro ri : EM} {p : Pos} (hu : X.A.units + 1 < cLine) (he : PE X e (tE c W rv)) (ho : PE X o (tE c W ro)) (hi : PE X i (tE c W ri))
    (ha : ∀ v, assign (.Subscript o i p) X.env v = (do
      let ov ← holding [v] (eval o X.env)
      let iv ← holding [v, ov] (eval i X.env)
      standAt p
      holding [v, ov, iv] (setItem ov iv v)
      release [v, ov, iv] []) := by intro _; rfl)
    (hs' : swapsWith e (some (.Subscript o i p)) pos.line X.env = pure false := by rfl)
    (hs : swapsWithSole [.Subscript o i p] e pos.line X.env = pure false := by rfl) (hw : swappedStores [.Subscript o i p] e X.env = pure none := by rfl)
    (h1 : (assignEach [.Subscript o i p] X.env).map (·.2) = [assign (.Subscript o i p) X.env] := by rfl) : PS X (.Assign [.Subscript o i p] e pos) (tS c W (sSetA rv ro ri)) :=
  (PS.or (s_setD hu he ho hi hs') (s_setL he ho hi ha hs hw h1)).wk fun D σ H ⟨ι, β, mh, σm, rel, rl, q⟩ => by
    have key : ∃ d : Bool, sSetA rv ro ri σm mh = if d = true then sSetDx rv ro ri σm mh else sSetIx rv ro ri σm mh := by
      unfold sSetA
      cases e1 : rv σm mh with
      | bad => exact ⟨true, by simp [sSetDx, e1, bindS]⟩
      | ex x h1 => exact ⟨true, by simp [sSetDx, e1, bindS]⟩
      | ok v h1 =>
        simp only [bindS]
        cases e2 : ro σm h1 with
        | bad => exact ⟨true, by simp [sSetDx, e1, e2, bindS]⟩
        | ex x h1 => exact ⟨true, by simp [sSetDx, e1, e2, bindS]⟩
        | ok o h2 =>
          simp only
          cases e3 : ri σm h2 with
          | bad => exact ⟨true, by simp [sSetDx, e1, e2, e3, bindS]⟩
          | ex x h1 => exact ⟨true, by simp [sSetDx, e1, e2, e3, bindS]⟩
          | ok i h3 =>
            simp only
            refine ⟨isDct o h3, ?_⟩
            cases isDct o h3 with
            | true => simp [sSetDx, e1, e2, e3, bindS]
            | false => simp [sSetIx, e1, e2, e3, bindS]
    obtain ⟨d, e⟩ := key
    rw [e] at q
    cases d with
    | true => exact .inl ⟨ι, β, mh, σm, rel, rl, q⟩
    | false => exact .inr ⟨ι, β, mh, σm, rel, rl, q⟩

/-! ### * -/
def mMul (fin : List MV → MH → R MV) (a b : MV) (h : MH) : R MV := match a, b with
  | .int i, .int j => mMulI (.int i) (.int j) h
  | a, .int k => match asL a h with
    | some l => if (inB k && decide (l.length * k.toNat ≤ SZ)) = true then fin (List.replicate k.toNat l).flatten h else .bad
    | none => .bad
  | _, _ => .bad
def rMulA : R2 := fun x y H Q => rI CMul (fun i j => .int (i * j)) x y H Q ∨ rRep x y H Q
theorem op_mulA : OpR X (binaryOp .Mult) rMulA := op_mul.or op_rep
theorem p_mulA {fin : List MV → MH → R MV} (hf : FinN c fin) : P2 c rMulA (mMul fin) := fun ι β H mh a b x y Q W rel ra rb p => by
  have lists : ∀ k, b = .int k → Post c ι β H (RV c) Q W (match asL a mh with | some l => if (inB k && decide (l.length * k.toNat ≤ SZ)) = true then fin (List.replicate k.toNat l).flatten mh else .bad | none => .bad) → rMulA x y H Q := fun k eb pk => by
    clear p
    subst eb
    cases el : asL a mh with
    | none => rw [el] at pk; exact pk.elim
    | some l =>
      rw [el] at pk
      dsimp only at pk
      split at pk
      · rename_i hh
        simp only [Bool.and_eq_true, decide_eq_true_eq] at hh
        obtain ⟨a1, v1, rfl, q1, r1⟩ := asL_rep el rel ra
        obtain ⟨h1, h2⟩ := inB_iff hh.1
        exact .inr ⟨a1, k, v1, rfl, ri rb, q1, by omega, by omega, by rw [← r1.length, sz_eq]; exact hh.2, fun z hz => hf _ _ _ _ _ _ _ _ _ rel (r1.flat _) hz pk⟩
      · exact pk.elim
  cases b with
  | int k =>
    cases a with
    | int i => exact .inl (p_mul ι β H mh _ _ x y Q W rel ra rb p)
    | _ => exact lists k rfl p
  | _ => cases a <;> exact p.elim

/-! ### == of data; sorted -/
theorem op_eqA (hu : X.A.units + 64 < cLine) : OpR X (compareOp .Eq) (rEqD X.K) := op_eqD hu
theorem op_neA (hu : X.A.units + 64 < cLine) : OpR X (compareOp .NotEq) (rNeD X.K) := op_neD hu
theorem p_eqA : P2 c (rEqD c.K) mEq := p_eq
theorem p_neA : P2 c (rNeD c.K) mNe := p_ne
def mSort := mSortI
theorem cr_sortA : CallR X (.builtin "sorted") (rSortedI X.K) := cr_sortedI
theorem p_sort {fin : List MV → MH → R MV} (hf : FinN c fin) : PN c (rSortedI c.K) (mSort fin) := p_sortI hf

/-! ### x[::-1] -/
def mRev (fin : List MV → MH → R MV) (a : MV) (h : MH) : R MV := match asL a h with
  | some l => fin l.reverse h
  | none => .bad
theorem e_rev {fin : List MV → MH → R MV} {p1 p2 p3 : Pos} (hf : FinN c fin) (hK : X.K = c.K) (ha : PE X a (tE c W ra)) : PE X (.Subscript a (.Slice none none (some (.UnaryOp .USub (.Constant (.int 1) k p1) p2)) p3) pos) (tE c W (m1 (mRev fin) ra)) :=
  (pe_revL ha).wk fun σ H Q ⟨ι, β, mh, σm, rel, rl, p⟩ => by
    refine (run1 rel rl p).mono fun x H1 ⟨ι1, mh1, v, f1, rel1, rl1, rv, p1⟩ => ?_
    cases el : asL v mh1 with
    | none => unfold mRev at p1; rw [el] at p1; exact p1.elim
    | some l =>
      unfold mRev at p1; rw [el] at p1
      obtain ⟨b, vs, rfl, sq, r⟩ := asL_rep el rel1 rv
      exact ⟨b, vs, rfl, .inl (.inl sq), fun z hz => hf _ _ _ _ _ _ _ _ _ rel1 r.reverse hz p1⟩

/-! ### a, b = x, y -/
def sPar (i j : Nat) (rs : AM) : SM := fun σ h => bindS (rs σ h) σ fun as h1 => match as with
  | [a, b] => .nx ((σ.set i (some a)).set j (some b)) h1
  | _ => .bad
theorem s_par {i j : Nat} {x y : Str} {a b : Expr} {rs : AM} {px py pt : Pos} {kt k2 pt2} (hc : X.calm = true) (hN : X.N.Nodup) (hi : X.N[i]? = some x) (hj : X.N[j]? = some y) (hij : i ≠ j)
    (hx : X.env.scope.names.lookup x = some .local) (hy : X.env.scope.names.lookup y = some .local) (ha : PA X [a, b] (tA c W rs))
    (hw : swappedStores [.Tuple [.Name x px, .Name y py] kt pt] (.Tuple [a, b] k2 pt2) X.env = pure (some [x, y]) := by rfl)
    (hs : swapsWithSole [.Tuple [.Name x px, .Name y py] kt pt] (.Tuple [a, b] k2 pt2) pos.line X.env = pure false := by rfl) :
    PS X (.Assign [.Tuple [.Name x px, .Name y py] kt pt] (.Tuple [a, b] k2 pt2) pos) (tS c W (sPar i j rs)) :=
  (ps_par hc hN hi hj hij hx hy ha hw hs).wk fun D σ H ⟨ι, β, mh, σm, rel, rl, q⟩ => by
    refine (run1S rel rl q).mono fun vs H1 ⟨ι1, mh1, as, f1, rel1, rl1, ra, p1⟩ => ?_
    split at p1
    · obtain ⟨v, w, rfl, q1, q2⟩ := Vs2 ra
      exact ⟨v, w, rfl, p1 ι1 H1 _ .refl rel1 ((rl1.set q1).set q2)⟩
    · exact p1.elim
end
end MP

/-! Mirror layer, part 9: plain laws of mirror terms, for proofs with no program in sight. -/
namespace MP
open PySem PySem.Spec PyProof.Rows L2


@[simp] theorem bindR_ok {α γ : Type} (a : α) (h : MH) (k : α → MH → R γ) : bindR (.ok a h) k = k a h := rfl
@[simp] theorem bindS_ok {α : Type} (a : α) (h : MH) (σ : Lo) (k : α → MH → SR) : bindS (.ok a h) σ k = k a h := rfl
theorem bindR_ok' {α γ : Type} {x : R α} {a : α} {h : MH} {k : α → MH → R γ} (e : x = .ok a h) : bindR x k = k a h := by rw [e]; rfl

/-! numbers -/
section
variable (i j : Int) (h : MH)
@[simp] theorem lt_int : mLt (.int i) (.int j) h = .ok (.bl (decide (i < j))) h := rfl
@[simp] theorem le_int : mLe (.int i) (.int j) h = .ok (.bl (decide (i ≤ j))) h := rfl
@[simp] theorem gt_int : mGt (.int i) (.int j) h = .ok (.bl (decide (j < i))) h := rfl
@[simp] theorem ge_int : mGe (.int i) (.int j) h = .ok (.bl (decide (j ≤ i))) h := rfl
@[simp] theorem sub_int : mSubI (.int i) (.int j) h = .ok (.int (i - j)) h := rfl
@[simp] theorem add_int (fin) : mAdd fin (.int i) (.int j) h = .ok (.int (i + j)) h := rfl
theorem mod_int (p : 0 < j) : mModI (.int i) (.int j) h = .ok (.int (i % j)) h := by
  simp [mModI, iop, p]
theorem div_int (p : 0 < j) (q : j < 1073741824) : mDivI (.int i) (.int j) h = .ok (.int (i / j)) h := by
  simp [mDivI, iop, p, q]
theorem mul_int (fin) (q : (-18446744073709551616 < i ∧ i < 18446744073709551616) ∨ (-18446744073709551616 < j ∧ j < 18446744073709551616)) : mMul fin (.int i) (.int j) h = .ok (.int (i * j)) h := by
  have e : ((decide (-18446744073709551616 < i) && decide (i < 18446744073709551616)) || (decide (-18446744073709551616 < j) && decide (j < 18446744073709551616))) = true := by
    simpa using q
  show mMulI _ _ _ = _
  unfold mMulI iop
  simp only [e, if_true]
@[simp] theorem neg_int : mNeg (.int i) h = .ok (.int (-i)) h := rfl
@[simp] theorem eq_int : mEq (.int i) (.int j) h = .ok (.bl (decide (i = j))) h := by
  simp only [mEq, eqMV, toD, SeqAt.shaped, PyData.canLay0, PyData.depth, PyData.eqv, Nat.zero_le, decide_true, Bool.and_self, if_true, Bool.false_eq_true, if_false]
  by_cases z : i = j <;> simp [z]
@[simp] theorem ne_int : mNe (.int i) (.int j) h = .ok (.bl (!decide (i = j))) h := by
  simp only [mNe, eqMV, toD, SeqAt.shaped, PyData.canLay0, PyData.depth, PyData.eqv, Nat.zero_le, decide_true, Bool.and_self, if_true]
  by_cases z : i = j <;> simp [z]
@[simp] theorem isInt_int : isT .int (.int i) h = .ok (.bl true) h := rfl
@[simp] theorem isBl_int : isT .bl (.int i) h = .ok (.bl false) h := rfl
@[simp] theorem isTup_tup (l : List MV) : isT .tup (.tup l) h = .ok (.bl true) h := rfl
@[simp] theorem isNot_bl (a b : Bool) : mIsNot (.bl a) (.bl b) h = .ok (.bl (!decide (a = b))) h := rfl
@[simp] theorem is_bl (a b : Bool) : mIs (.bl a) (.bl b) h = .ok (.bl (decide (a = b))) h := rfl
end

/-! what has no reference -/
mutual
@[simp] def pureV : MV → Bool
  | .tup l => pureVs l
  | .lv l => pureVs l
  | .dv _ ws => pureVs ws
  | .fz l => pureVs l
  | .ref _ => false
  | _ => true
@[simp] def pureVs : List MV → Bool
  | [] => true
  | a :: l => pureV a && pureVs l
end
mutual
theorem cl_pure (n : Nat) : ∀ {v : MV}, pureV v = true → clV n v = true
  | .tup l, h => by unfold pureV at h; unfold clV; exact cls_pure n h
  | .lv l, h => by unfold pureV at h; unfold clV; exact cls_pure n h
  | .dv _ l, h => by unfold pureV at h; unfold clV; exact cls_pure n h
  | .fz l, h => by unfold pureV at h; unfold clV; exact cls_pure n h
  | .ref _, h => by unfold pureV at h; cases h
  | .non, _ => by unfold clV; rfl
  | .bl _, _ => by unfold clV; rfl
  | .int _, _ => by unfold clV; rfl
  | .str _, _ => by unfold clV; rfl
theorem cls_pure (n : Nat) : ∀ {l : List MV}, pureVs l = true → clVs n l = true
  | [], _ => by unfold clVs; rfl
  | a :: l, h => by
    unfold pureVs at h
    rw [Bool.and_eq_true] at h
    unfold clVs
    rw [cl_pure n h.1, cls_pure n h.2]; rfl
end
theorem pures_map {α : Type} {f : α → MV} (h : ∀ x, pureV (f x) = true) : ∀ l : List α, pureVs (l.map f) = true
  | [] => by simp [pureVs]
  | a :: l => by rw [List.map_cons, pureVs, h, pures_map h l]; rfl
theorem pures_app : ∀ {l r : List MV}, pureVs l = true → pureVs r = true → pureVs (l ++ r) = true
  | [], r, _, h => h
  | a :: l, r, h, h' => by
    rw [pureVs, Bool.and_eq_true] at h
    rw [List.cons_append, pureVs, h.1, pures_app h.2 h']; rfl
@[simp] theorem pure_ints (ns : List Int) : pureVs (ns.map .int) = true := pures_map (fun _ => by simp [pureV]) ns

theorem fr_pure (h : MH) (n f : Nat) {v : MV} (p : pureV v = true) : frV h n f v = some v := by
  cases f <;> simp [frV, cl_pure n p]
theorem frs_pure (h : MH) (n f : Nat) : ∀ {l : List MV}, pureVs l = true → mapO (frV h n f) l = some l
  | [], _ => rfl
  | a :: l, p => by
    rw [pureVs, Bool.and_eq_true] at p
    rw [mapO, fr_pure h n f p.1, frs_pure h n f p.2]
@[simp] theorem take_app (h g : MH) : (h ++ g).take h.length = h := by simp
theorem kept_app (h g : MH) : keptH h (h ++ g) = true := by simp [keptH]
/-- the same heap behind it -/
@[simp] theorem gcF_same (h : MH) (v : MV) : gcF h v h = .ok v h := by simp [gcF]
theorem gcF_pure (h g : MH) {v : MV} (p : pureV v = true) : gcF h v (h ++ g) = .ok v h := by
  unfold gcF
  by_cases z : (h ++ g).length ≤ h.length
  · have : g = [] := by
      rw [List.length_append] at z
      exact List.length_eq_zero_iff.mp (by omega)
    subst this
    rw [if_pos z, List.append_nil]
  · rw [if_neg z, if_pos (kept_app h g), fr_pure _ _ _ p, take_app]
theorem gcF_list (h g : MH) {l : List MV} {k : Nat} (e : g[k]? = some (.lst l)) (p : pureVs l = true) : gcF h (.ref (h.length + k)) (h ++ g) = .ok (.lv l) h := by
  obtain ⟨hk, ek⟩ := List.getElem?_eq_some_iff.mp e
  have z : ¬ (h ++ g).length ≤ h.length := by rw [List.length_append]; omega
  unfold gcF
  rw [if_neg z, if_pos (kept_app h g)]
  have e2 : (h ++ g)[h.length + k]? = some (.lst l) := by rw [List.getElem?_append_right (by omega)]; simpa using e
  have e3 : frV (h ++ g) h.length 12 (.ref (h.length + k)) = some (.lv l) := by
    rw [frV]
    have : clV h.length (.ref (h.length + k)) = false := by rw [clV]; simp
    rw [this]
    simp only [Bool.false_eq_true, if_false, e2, frs_pure _ _ _ p, Option.map_some]
  rw [e3, take_app]
theorem gcF_new (h : MH) {l : List MV} (p : pureVs l = true) : gcF h (.ref h.length) (h ++ [.lst l]) = .ok (.lv l) h := gcF_list h [.lst l] (k := 0) rfl p
theorem gcR_pure (h g : MH) {v : MV} (p : pureV v = true) : gcR h v (h ++ g) = .ok v (h ++ g) := by
  unfold gcR
  rw [if_pos (kept_app h g)]
  cases v with
  | ref n => simp at p
  | _ => rfl
@[simp] theorem gcR_same (h : MH) {v : MV} (p : pureV v = true) : gcR h v h = .ok v h := by
  have := gcR_pure h [] p
  rwa [List.append_nil] at this
theorem gcR_list (h g : MH) {l : List MV} {k : Nat} (e : g[k]? = some (.lst l)) (p : pureVs l = true) : gcR h (.ref (h.length + k)) (h ++ g) = .ok (.ref h.length) (h ++ [.lst l]) := by
  unfold gcR
  have e2 : (h ++ g)[h.length + k]? = some (.lst l) := by rw [List.getElem?_append_right (by omega)]; simpa using e
  rw [if_pos (kept_app h g)]
  simp only [show ¬ (h.length + k < h.length) from by omega, if_false, e2, frs_pure _ _ _ p, take_app]
theorem gcR_new (h : MH) {l : List MV} (p : pureVs l = true) : gcR h (.ref h.length) (h ++ [.lst l]) = .ok (.ref h.length) (h ++ [.lst l]) := gcR_list h [.lst l] (k := 0) rfl p
/-! calls -/
theorem cF_val {n : Nat} {m : List MV → MH → R MV} {as : List MV} {h g : MH} {v : MV} (hl : as.length = n) (e : m as h = .ok v (h ++ g)) (p : pureV v = true) : cF n m as h = .ok v h := by
  unfold cF; rw [if_pos hl, e, bindR_ok, gcF_pure h g p]
theorem cF_val0 {n : Nat} {m : List MV → MH → R MV} {as : List MV} {h : MH} {v : MV} (hl : as.length = n) (e : m as h = .ok v h) : cF n m as h = .ok v h := by
  unfold cF; rw [if_pos hl, e, bindR_ok, gcF_same]
theorem cF_new {n : Nat} {m : List MV → MH → R MV} {as : List MV} {h : MH} {l : List MV} (hl : as.length = n) (e : m as h = .ok (.ref h.length) (h ++ [.lst l])) (p : pureVs l = true) : cF n m as h = .ok (.lv l) h := by
  unfold cF; rw [if_pos hl, e, bindR_ok, gcF_new h p]
theorem cR_val0 {n : Nat} {m : List MV → MH → R MV} {as : List MV} {h : MH} {v : MV} (hl : as.length = n) (e : m as h = .ok v h) (p : pureV v = true) : cR n m as h = .ok v h := by
  unfold cR; rw [if_pos hl, e, bindR_ok, gcR_same _ p]
theorem cR_new {n : Nat} {m : List MV → MH → R MV} {as : List MV} {h : MH} {l : List MV} (hl : as.length = n) (e : m as h = .ok (.ref h.length) (h ++ [.lst l])) (p : pureVs l = true) : cR n m as h = .ok (.ref h.length) (h ++ [.lst l]) := by
  unfold cR; rw [if_pos hl, e, bindR_ok, gcR_new h p]

/-! reading -/
@[simp] theorem get_new (h : MH) (o : MO) : (h ++ [o])[h.length]? = some o := by simp
theorem mapO_map {α : Type} {γ δ : Type} {f : γ → Option δ} {g : α → γ} {k : α → δ} : ∀ {l : List α}, (∀ x ∈ l, f (g x) = some (k x)) → mapO f (l.map g) = some (l.map k)
  | [], _ => rfl
  | a :: l, h => by
    rw [List.map_cons, mapO, h a List.mem_cons_self, mapO_map (fun x hx => h x (List.mem_cons_of_mem _ hx))]
    rfl
theorem eq_same {a b : MV} {h : MH} {d : PyData} (e1 : toD h 12 a = some d) (e2 : toD h 12 b = some d) (s : SeqAt.shaped d = true) (r : PyData.eqv d d = true) : mEq a b h = .ok (.bl true) h := by
  simp [mEq, eqMV, e1, e2, s, r]
theorem ne_same {a b : MV} {h : MH} {d : PyData} (e1 : toD h 12 a = some d) (e2 : toD h 12 b = some d) (s : SeqAt.shaped d = true) (r : PyData.eqv d d = true) : mNe a b h = .ok (.bl false) h := by
  simp [mNe, eqMV, e1, e2, s, r]
mutual
def okD : PyData → Bool
  | .none => true
  | .bool _ => true
  | .int _ => true
  | .list l => okDs l
  | .tuple l => okDs l
  | _ => false
def okDs : List PyData → Bool
  | [] => true
  | a :: l => okD a && okDs l
end
mutual
theorem okD_lay : ∀ {d : PyData}, okD d = true → PyData.canLay0 d = true ∧ PyData.eqv d d = true
  | .none, _ => ⟨rfl, by simp [PyData.eqv]⟩
  | .bool _, _ => ⟨rfl, by simp [PyData.eqv]⟩
  | .int _, _ => ⟨rfl, by simp [PyData.eqv]⟩
  | .str _, h => by simp [okD] at h
  | .dict _, h => by simp [okD] at h
  | .list l, h => by
    rw [okD] at h
    have := okDs_lay h
    exact ⟨by rw [PyData.canLay0]; exact this.1, by rw [PyData.eqv]; exact this.2⟩
  | .tuple l, h => by
    rw [okD] at h
    have := okDs_lay h
    exact ⟨by rw [PyData.canLay0]; exact this.1, by rw [PyData.eqv]; exact this.2⟩
theorem okDs_lay : ∀ {l : List PyData}, okDs l = true → PyData.canLayAll0 l = true ∧ PyData.eqvAll l l = true
  | [], _ => ⟨by simp [PyData.canLayAll0], by simp [PyData.eqvAll]⟩
  | a :: l, h => by
    rw [okDs, Bool.and_eq_true] at h
    have h1 := okD_lay h.1
    have h2 := okDs_lay h.2
    exact ⟨by rw [PyData.canLayAll0, h1.1, h2.1]; rfl, by rw [PyData.eqvAll, h1.2, h2.2]; rfl⟩
end
theorem okDs_map {α : Type} {f : α → PyData} (h : ∀ x, okD (f x) = true) : ∀ l : List α, okDs (l.map f) = true
  | [] => by simp [okDs]
  | a :: l => by rw [List.map_cons, okDs, h, okDs_map h l]; rfl
theorem depthAll_map_le {α : Type} {f : α → PyData} {n : Nat} (h : ∀ x, PyData.depth (f x) ≤ n) : ∀ l : List α, PyData.depthAll (l.map f) ≤ n
  | [] => by simp [PyData.depthAll]
  | a :: l => by
    rw [List.map_cons, PyData.depthAll]
    exact Nat.max_le.mpr ⟨h a, depthAll_map_le h l⟩
theorem ne_okD {a b : MV} {h : MH} {d : PyData} (e1 : toD h 12 a = some d) (e2 : toD h 12 b = some d) (o : okD d = true) (n : PyData.depth d ≤ 64) : mNe a b h = .ok (.bl false) h :=
  ne_same e1 e2 (by unfold SeqAt.shaped; rw [(okD_lay o).1]; simpa using n) (okD_lay o).2
theorem eq_okD {a b : MV} {h : MH} {d : PyData} (e1 : toD h 12 a = some d) (e2 : toD h 12 b = some d) (o : okD d = true) (n : PyData.depth d ≤ 64) : mEq a b h = .ok (.bl true) h :=
  eq_same e1 e2 (by unfold SeqAt.shaped; rw [(okD_lay o).1]; simpa using n) (okD_lay o).2
/-- lists of likewise shaped things, one and the same -/
theorem ne_maps {α : Type} {xs : List α} {f g : α → MV} {k : α → PyData} {h : MH} {a b : MV} (ea : asS a h = some (xs.map f)) (eb : asS b h = some (xs.map g)) (ta : ∀ l, a ≠ .tup l) (tb : ∀ l, b ≠ .tup l)
    (hf : ∀ x ∈ xs, toD h 11 (f x) = some (k x)) (hg : ∀ x ∈ xs, toD h 11 (g x) = some (k x)) (o : ∀ x, okD (k x) = true) (n : ∀ x, PyData.depth (k x) ≤ 62) : mNe a b h = .ok (.bl false) h := by
  have go : ∀ (c : MV) (q : α → MV), asS c h = some (xs.map q) → (∀ l, c ≠ .tup l) → (∀ x ∈ xs, toD h 11 (q x) = some (k x)) → toD h 12 c = some (.list (xs.map k)) := fun c q ec tc hq => by
    cases c with
    | lv l => cases ec; rw [toD, mapO_map hq]; rfl
    | fz l => cases ec; rw [toD, mapO_map hq]; rfl
    | tup l => exact absurd rfl (tc l)
    | ref m =>
      unfold asS at ec
      cases eo : h[m]? with
      | none => simp only [eo] at ec; cases ec
      | some ob =>
        simp only [eo] at ec
        cases ob with
        | lst l => cases ec; rw [toD]; simp only [eo]; rw [mapO_map hq]; rfl
        | dct _ => cases ec
        | fdc _ => cases ec
        | ins _ _ => cases ec
    | _ => cases ec
  refine ne_okD (go a f ea ta hf) (go b g eb tb hg) (by rw [okD]; exact okDs_map o xs) ?_
  rw [PyData.depth]
  have := depthAll_map_le n xs
  omega
/-! loops -/
theorem forGo_inv {chk : MH → Bool} {g : GM} {body : SM} (P : List MV → Lo → MH → Prop) (step : ∀ x xs σ h, P (x :: xs) σ h → chk h = true ∧ ∃ σ1 h1, g x σ h = .ok σ1 h1 ∧ ∃ σ2 h2, body σ1 h1 = .nx σ2 h2 ∧ P xs σ2 h2)
    (last : ∀ σ h, P [] σ h → chk h = true) : ∀ (l : List MV) (σ : Lo) (h : MH), P l σ h → ∃ σ' h', forGo chk g body l σ h = .nx σ' h' ∧ P [] σ' h'
  | [], σ, h, p => ⟨σ, h, by rw [forGo, if_pos (last σ h p)], p⟩
  | x :: xs, σ, h, p => by
    obtain ⟨hc, σ1, h1, e1, σ2, h2, e2, p2⟩ := step x xs σ h p
    obtain ⟨σ', h', e, q⟩ := forGo_inv P step last xs σ2 h2 p2
    exact ⟨σ', h', by rw [forGo, if_pos hc, e1]; simp only [e2]; exact e, q⟩
/-- a loop each turn of which leaves all as it was -/
theorem forGo_same {chk : MH → Bool} {g : GM} {body : SM} {σ : Lo} {h : MH} (hc : chk h = true) : ∀ {l : List MV}, (∀ x ∈ l, ∃ σ1, g x σ h = .ok σ1 h ∧ body σ1 h = .nx σ h) → forGo chk g body l σ h = .nx σ h
  | [], _ => by rw [forGo, if_pos hc]
  | x :: xs, p => by
    obtain ⟨σ1, e1, e2⟩ := p x List.mem_cons_self
    rw [forGo, if_pos hc, e1]
    simp only [e2]
    exact forGo_same hc fun y hy => p y (List.mem_cons_of_mem _ hy)
/-! comprehensions -/
theorem lcGo_map {α : Type} {chk : MH → Bool} {p : TP} {t : TM} {e : EM} {σ : Lo} {h : MH} (hc : chk h = true) {q : α → MV} {b : α → Bool} {f : α → MV} : ∀ {l : List α}, (∀ x ∈ l, ∃ σ1, asP p (q x) σ = some σ1 ∧ t σ1 h = .ok (b x) h ∧ (b x = true → e σ1 h = .ok (f x) h)) →
    lcGo chk p t e (l.map q) σ h = .ok ((l.filter b).map f) h
  | [], _ => by rw [List.map_nil, lcGo, if_pos hc]; rfl
  | x :: xs, z => by
    obtain ⟨σ1, e1, e2, e3⟩ := z x List.mem_cons_self
    have ih := lcGo_map (l := xs) hc fun y hy => z y (List.mem_cons_of_mem _ hy)
    rw [List.map_cons, lcGo, if_pos hc, e1]
    simp only [e2]
    cases hb : b x with
    | true =>
      simp only [if_true, e3 hb, ih, List.filter_cons, hb, List.map_cons]
    | false =>
      simp only [Bool.false_eq_true, if_false, ih, List.filter_cons, hb]
/-- without a test -/
theorem lcGo_all {α : Type} {chk : MH → Bool} {p : TP} {e : EM} {σ : Lo} {h : MH} (hc : chk h = true) {q : α → MV} {f : α → MV} {l : List α} (z : ∀ x ∈ l, ∃ σ1, asP p (q x) σ = some σ1 ∧ e σ1 h = .ok (f x) h) :
    lcGo chk p mYes e (l.map q) σ h = .ok (l.map f) h := by
  rw [lcGo_map (b := fun _ => true) hc fun x hx => by
    obtain ⟨σ1, e1, e2⟩ := z x hx
    exact ⟨σ1, e1, rfl, fun _ => e2⟩]
  rw [List.filter_eq_self.mpr (fun _ _ => rfl)]
theorem cut_last (l : List MV) (x : MV) : cutM (l ++ [x]) none (some (-1)) = l := by
  unfold cutM
  simp only [HT.sIx, List.drop_zero, Nat.sub_zero, List.length_append, List.length_singleton]
  rw [if_pos (by omega)]
  have : ((-1 : Int) + ((l.length + 1 : Nat) : Int)).toNat = l.length := by omega
  rw [this, List.take_append_of_le_length (Nat.le_refl _), List.take_length]
/-- ordered already -/
theorem isort_eq {l r : List Int} (p : r.Perm l) (s : r.Pairwise (· ≤ ·)) : isortI l = r :=
  sorted_unique ((isortI_perm l).trans p.symm) (isortI_sorted l) s
theorem inB_of {i : Int} (h1 : -1000000000 ≤ i) (h2 : i ≤ 1000000000) : inB i = true := by
  unfold inB
  rw [decide_eq_true (Int.le_trans (show -B62 ≤ -1000000000 by decide) h1), decide_eq_true (Int.lt_of_le_of_lt h2 (show (1000000000 : Int) < B62 by decide))]
  rfl
theorem gcL_app {ks : List Nat} {h g : MH} {σ : Lo} (e : clL h.length (killL ks σ) = true) : gcL ks h σ (h ++ g) = (killL ks σ, h) := by
  unfold gcL
  by_cases z : (h ++ g).length ≤ h.length
  · have : g = [] := by
      rw [List.length_append] at z
      exact List.length_eq_zero_iff.mp (by omega)
    subst this
    rw [if_pos z, List.append_nil]
  · rw [if_neg z, e, kept_app, take_app]; rfl
@[simp] theorem gcL_same (ks : List Nat) (h : MH) (σ : Lo) : gcL ks h σ h = (killL ks σ, h) := by simp [gcL]
theorem sGc_same {ks : List Nat} {b : SM} {σ σ2 : Lo} {h : MH} (e : b σ h = .nx σ2 h) : sGc ks b σ h = .nx (killL ks σ2) h := by
  unfold sGc; rw [e]; simp only [gcL_same]
theorem sGc_app {ks : List Nat} {b : SM} {σ σ2 : Lo} {h g : MH} (e : b σ h = .nx σ2 (h ++ g)) (cl : clL h.length (killL ks σ2) = true) : sGc ks b σ h = .nx (killL ks σ2) h := by
  unfold sGc; rw [e]; simp only [gcL_app cl]
@[simp] theorem set_new (h : MH) (o o' : MO) : (h ++ [o]).set h.length o' = h ++ [o'] := by
  rw [List.set_append_right _ _ (Nat.le_refl _)]; simp
theorem app_new (h : MH) {l : List MV} (v : MV) (z : l.length < SZ) : mAppend (.ref h.length) [v] (h ++ [.lst l]) = .ok .non (h ++ [.lst (l ++ [v])]) := by
  unfold mAppend
  simp only [get_new, if_pos z, setH, set_new]
theorem asL_new (h : MH) (l : List MV) : asL (.ref h.length) (h ++ [.lst l]) = some l := by
  unfold asL; simp only [get_new]
theorem asS_new (h : MH) (l : List MV) : asS (.ref h.length) (h ++ [.lst l]) = some l := by
  unfold asS; simp only [get_new]
theorem sl_last (h : MH) (l : List MV) (v : MV) : mSl finV (.ref h.length) none (some (-1)) (h ++ [MO.lst (l ++ [v])]) = .ok (.lv l) (h ++ [MO.lst (l ++ [v])]) := by
  unfold mSl
  simp only [asL_new, cut_last, finV]
theorem m_append {ro : EM} {rs : AM} {σ : Lo} {g : MH} {l : List MV} {v : MV} (e1 : ro σ (g ++ [MO.lst l]) = .ok (.ref g.length) (g ++ [MO.lst l])) (e2 : rs σ (g ++ [MO.lst l]) = .ok [v] (g ++ [MO.lst l])) (z : l.length < SZ) : mMeth mAppend ro rs σ (g ++ [MO.lst l]) = .ok .non (g ++ [MO.lst (l ++ [v])]) := by
  unfold mMeth
  rw [e1]
  simp only [bindR_ok, asL_new, e2, app_new g v z]
end MP

/-! Mirror layer, part 10: set comprehensions whose items are tuples of ints, over the library's tuple sets. -/
namespace MP
open PySem PySem.Spec PyProof.Rows L2
section
variable {X : Cx}
/-- one tuple put into the set being built -/
theorem put_tup {pins : List (Addr × Obj)} {σ : L2.St} {H : Hp} {s : Shared} {E : Value → Shared → Prop} {D x : Addr} {k : List Int} {L : List (Addr × List Int)} {Q : Value → Shared → Prop}
    (hu : X.A.units + 64 < cLine) (I : Inv X pins σ H s) (hD : H D = some (SetTO X.prog X.w D L)) (ht : ∀ p ∈ L, SqT X.K H p.1 (p.2.map V.int)) (hx : SqT X.K H x (k.map V.int)) (few : L.length + 1 < 64)
    (q : ∀ s' L', (k ∈ L.map (·.2) → L' = L) → (k ∉ L.map (·.2) → L'.Perm ((x, k) :: L)) → Inv X pins σ (upd H D (SetTO X.prog X.w D L')) s' → Q .none s') :
    wpAny (model X.prog X.w) X.A (call (.builtin "set.add") [.ref D, .ref x]) Q E s := by
  have old : SetT0 X.prog X.w s.heap D L := (I.hok D _ hD).1
  obtain ⟨es, ep, t, R⟩ := old.full fun p hp => I.isT (ht p hp)
  have hT : s.TypeIs (.ref D) "set" := by
    obtain ⟨o, ho, hex, _⟩ := R.ob
    exact ⟨o, ho, hex.1⟩
  refine wpAny_call_entry F.slot_set_add hT F.entry_set_add ?_ (F.args_set_add_2 _ _)
  unfold Builtin.«set.add» Builtin.Frozenset.oneOther
  simp only [List.isEmpty_nil, bind_assoc]
  unfold Builtin.Frozenset.addrOf
  repeat (refine wpAny_bind (wpAny_pure ?_); try dsimp only)
  unfold setAdd
  refine wpAny_bind (wpAny_holding ?_)
  have u1 : X.A.in1.units < cLine := by
    show X.A.units + 1 < cLine
    omega
  refine wpAny_bind (wpAny_pyHash_tuple u1 (I.isT hx) ?_)
  refine add_at (s := { s with toks := s.toks + (k.length + 1) }) R (I.isT hx) u1 few fun b h' L' es' ep' t' sb R' c1 c2 => ?_
  have there : ∃ u, h'.get? D = some u := by
    obtain ⟨o, ho, _⟩ := R'.ob
    exact ⟨o, ho⟩
  show wpAny _ _ (ret Value.none) _ _ _
  exact wpAny_pure ⟨_, rfl, q _ L' c1 c2 (I.write (e := D) (t' := s.toks + (k.length + 1)) (by rw [hD]; trivial) (.inl rfl) (fun b u hb hu => (sb.2 b hb).trans hu) there (setTO_new R'.t0))⟩

/-- what {elt for tg in iter if ..} asks, its items tuples of ints: D is the new set -/
def tScT (P : Program) (w : World) (K : PySem.W.Frag) (wi : TI) (g : TG) (tt : TT) (te : TE) (vs : List Nat) : TE := fun σ H Q =>
  wi σ H fun J H1 => ∀ D, H1 D = none → ∃ Wl : Nat → Nat → Hp → Prop, (∃ m, Wl 0 m (upd H1 D (SetTO P w D []))) ∧
    ∀ i m H, Wl i m H → (J.stop i H ∧ Q (.ref D) H) ∨
      (J.go i H ∧ ∃ Go : Hp → Prop, (∀ H', Go H' → ∃ m', m' < m ∧ Wl (i + 1) m' H') ∧
        ∀ x H', J.yld i H x H' → g x (wipe σ vs) H' fun σ2 H2 => wipe σ2 vs = wipe σ vs ∧ tt σ2 H2 fun b H3 =>
          if b = true then te σ2 H3 fun y H4 => ∃ (a : Addr) (k : List Int) (L : List (Addr × List Int)), y = .ref a ∧ SqT K H4 a (k.map V.int) ∧ H4 D = some (SetTO P w D L) ∧ (∀ p ∈ L, SqT K H4 p.1 (p.2.map V.int)) ∧ L.length + 1 < 64 ∧
            ∀ L', (k ∈ L.map (·.2) → L' = L) → (k ∉ L.map (·.2) → L'.Perm ((a, k) :: L)) → Go (upd H4 D (SetTO P w D L'))
          else Go H3)
theorem pe_scT {elt tg iter : Expr} {ifs : List Expr} {scope : Scope} {own : List (PySem.Str × Nat)} {pos : Pos} {wi : TI} {g : TG} {tt : TT} {te : TE} (hu : X.A.units + 64 < cLine) (calm : X.calm = true) (nd : X.N.Nodup) (walk : PI X tg iter wi) (blk : BlkOk X.N X.env.scope scope own)
    (dg : ∀ (s : Shared) (H : Hp) (C : Addr) (cl : List (PySem.Str × Addr)) (fp : List Addr), PG (X.blk s H scope (compEnvC scope cl C X.env) fp) tg g)
    (dt : ∀ (s : Shared) (H : Hp) (C : Addr) (cl : List (PySem.Str × Addr)) (fp : List Addr), PTs (X.blk s H scope (compEnvC scope cl C X.env) fp) ifs tt)
    (de : ∀ (s : Shared) (H : Hp) (C : Addr) (cl : List (PySem.Str × Addr)) (fp : List Addr), PE (X.blk s H scope (compEnvC scope cl C X.env) fp) elt te) (fold : ∀ x, foldedSetIterable iter X.env x = pure x := by intro _; rfl) :
    PE X (.SetComp elt [⟨tg, iter, ifs, 0⟩] scope pos) (tScT X.prog X.w X.K wi g tt te (own.map (·.2))) := by
  refine ⟨fun pins s σ H Q I ask => ?_⟩
  rw [PpSet.eval_SetComp]
  have cellsThere : ∀ y ∈ scope.names, y.2 = .free → ∃ c, X.env.cells.lookup y.1 = some c := fun y hy e =>
    (blk.free y hy e).elim (fun k => I.ok.has _ (.inl k)) fun k => I.ok.has _ (.inr k)
  -- the walked thing first
  refine wpAny_comprehension_free (use := none) rfl fold (closure_ok cellsThere) blk.kind (fun y hy e => by rw [blk.uniq y hy, e]) ?_
  refine thn (walk.run pins s σ H _ I ask) fun xv sA hA => thn hA fun itv sB ⟨it, fp, tn, J, HB, eIt, IB, T, tn0, fpB, q⟩ => ?_
  subst eIt
  refine PpSet.newSet_ok (newEnv_comp ?_)
  generalize eD : sB.heap.objs.size = D
  have freshD : HB D = none := IB.hok.fresh (Nat.le_of_eq eD)
  obtain ⟨Wl, ⟨m0, start⟩, turn⟩ := q D freshD
  generalize eO : ({ cls := .type "set", dict := none, data := .set #[] 0 (.fresh 0 0 (!X.w.params.followText "set-order")) } : Obj) = emptySet
  have pushedD : (sB.heap.push emptySet).get? D = some emptySet := by rw [← eD]; exact Heap.get?_push_size _ (by rw [← eO]; rfl)
  generalize eS : ({ sB with heap := sB.heap.push emptySet } : Shared) = sC
  have heapC : sC.heap = sB.heap.push emptySet := by rw [← eS]
  generalize eH : upd HB D (SetTO X.prog X.w D []) = HC at start
  have IC : Inv X pins σ HC sC := by
    rw [← eS, ← eH]
    refine IB.laid (t' := sB.toks) (fun b o e => Heap.get?_push_of_some _ e) (Nat.le_of_eq eD) (setTO_new ?_)
    exact (setTR_fresh (P := X.prog) (w := X.w) (a := D) (by rw [pushedD, ← eO])).t0
  have inB : ∀ b ∈ fp, b < sB.heap.objs.size := fun b hb => let ⟨o, e, _⟩ := T.obj _ _ tn0 b hb; Heap.lt_size e
  have fpC : ∀ b ∈ fp, FpOk X pins HC b ∧ b < sC.heap.objs.size := fun b hb =>
    ⟨⟨by rw [← eH, upd_ne (by rw [← eD]; exact Nat.ne_of_lt (inB b hb))]; exact (fpB b hb).1, (fpB b hb).2⟩, by rw [heapC, Heap.size_push]; exact Nat.lt_succ_of_lt (inB b hb)⟩
  have tnC : tn 0 sC.heap := T.keep _ _ _ tn0 fun b _ o e => by rw [heapC]; exact Heap.get?_push_of_some _ e
  have noneC : ∀ b ∈ fp, HC b = none := fun b hb => (fpC b hb).1.1
  -- the block's own room
  have IK := block_start IC blk nd fpC
  generalize eCl : cellsFrom (sC.heap.objs.size + 1) scope.names (cloFrom X.env.cells scope.names []) = cl at IK
  have hg := dg sC HC sC.heap.objs.size cl fp
  have ht := dt sC HC sC.heap.objs.size cl fp
  have he := de sC HC sC.heap.objs.size cl fp
  generalize eEnv : compEnvC scope cl sC.heap.objs.size X.env = ce at IK hg ht he
  have ceLoc : ce.locals = sC.heap.objs.size := by rw [← eEnv]; rfl
  generalize eK : ({ sC with heap := pushCells (sC.heap.push { cls := .type "dict", data := .dict #[] }) scope.names } : Shared) = sK at IK
  have tnK : tn 0 sK.heap := T.keep _ _ _ tnC fun b _ o e => by rw [← eK]; exact pushCells_keeps _ _ _ _ (Heap.get?_push_of_some _ e)
  have apart : ∀ {σ' : L2.St} {H' : Hp} {s' : Shared}, Inv (X.blk sC HC scope ce fp) [] σ' H' s' → (∀ b ∈ fp, H' b = none) → ∀ b ∈ fp, FpOk (X.blk sC HC scope ce fp) [] H' b := fun {σ' H' s'} I' no b hb =>
    ⟨no b hb, (I'.ok.exf b hb).1, I'.ok.exfs b hb, .inl hb, fun x c e => (I'.ok.exf b hb).2 x c e, fun p hp => absurd (show p ∈ ([] : List (Addr × Obj)) ++ [] from hp) (by simp)⟩
  have turns : codeAny (model X.prog X.w) X.A (.compLoop (.SetComp elt [⟨tg, iter, ifs, 0⟩] scope pos) 0 (.ref it) (.ref D) ce) (compPost (model X.prog X.w) X.A X.xe none (EP X pins σ Q) (.ref D) sC.heap.objs.size) sK := by
    refine PpSet.compLoopS_any (fun n s' => ∃ i H', Inv (X.blk sC HC scope ce fp) [] (wipe σ (own.map (·.2))) H' s' ∧ tn i s'.heap ∧ (∀ b ∈ fp, H' b = none) ∧ Wl i n H') ?_ m0 ⟨0, HC, IK, tnK, noneC, start⟩
    rintro n s5 ⟨i, H5, I5, tn5, none5, w5⟩
    cases turn i n H5 w5 with
    | inl z =>
      obtain ⟨stop, fin⟩ := z
      refine thnF (T.done (X.blk sC HC scope ce fp) rfl rfl rfl calm i [] s5 _ H5 (fun _ _ => False) I5 (apart I5 none5) tn5 stop) fun r s6 ⟨hr, I6⟩ => ?_
      subst hr
      have I7 : Inv X pins σ H5 s6 := IC.call' (ch := fp) I6.os I6.base I6.hok I6.bare fun b hb => ⟨(fpC b hb).1.2.2.2.1, (fpC b hb).1.2.1, (fpC b hb).1.2.2.2.2.1, (fpC b hb).1.2.2.2.2.2⟩
      have roomC : H5 sC.heap.objs.size = none := by rw [← ceLoc]; exact I6.free
      obtain ⟨m, hn, _⟩ := I6.loc
      have hn : s6.heap.Ns ce.locals m := hn
      rw [ceLoc] at hn
      obtain ⟨f0, f1, _, f3, f4, f5⟩ := IC.fpOk (Nat.le_refl _) roomC
      exact ⟨m, hn, fun h'' sb => ⟨.ref D, H5, I7.turned (t' := s6.toks) (fun b o hb e => (sb.2 b hb).trans e) f0 f1 f3 f4 f5, rfl, fin⟩⟩
    | inr z =>
      obtain ⟨go, Go, more, step⟩ := z
      refine thnF (T.item (X.blk sC HC scope ce fp) rfl rfl rfl calm i [] s5 _ H5 (fun _ _ => False) I5 (apart I5 none5) tn5 go) fun r s6 ⟨u, hr, h6⟩ => ?_
      subst hr
      refine thnF h6 fun _ s7 ⟨x, H7, I7, r7, y7, tn7, none7⟩ => ?_
      refine thnF (hg.run _ s7 _ H7 x u _ (I7.pinned (apart I7 none7) (T.obj _ _ tn7)) r7 (step x H7 y7)) fun _ s8 ⟨σ8, H8, I8, same8, q8⟩ => ?_
      have close : ∀ {s' : Shared} {H' : Hp}, Inv (X.blk sC HC scope ce fp) ([] ++ pinsAt fp s7.heap) σ8 H' s' → Go H' → ∃ m, m < n ∧ ∃ i H', Inv (X.blk sC HC scope ce fp) [] (wipe σ (own.map (·.2))) H' s' ∧ tn i s'.heap ∧ (∀ b ∈ fp, H' b = none) ∧ Wl i m H' := fun {s' H'} I' nx => by
        obtain ⟨m', lt, w'⟩ := more H' nx
        have kept : ∀ b ∈ fp, ∀ o, s7.heap.get? b = some o → s'.heap.get? b = some o ∧ H' b = none := fun b hb o e =>
          let z := I'.pin (b, o) (List.mem_append_right _ (List.mem_append_right _ (mem_pinsAt hb e)))
          ⟨z.1, z.2.1⟩
        have len : (wipe σ (own.map (·.2))).length = σ8.length := by rw [← same8, wipe_length]
        exact ⟨m', lt, i + 1, H', (I'.unpinned (pins := [])).weak len (fun j v e => by rw [← same8] at e; exact (wipe_some e).1), T.keep _ _ _ tn7 fun b hb o e => (kept b hb o e).1, fun b hb => let ⟨o, e, _⟩ := T.obj _ _ tn7 b hb; (kept b hb o e).2, w'⟩
      refine thnF (ht.run _ s8 σ8 H8 _ I8 q8) fun b s9 ⟨H9, I9, q9⟩ => ?_
      cases b with
      | false =>
        simp only [Bool.false_eq_true, if_false] at q9 ⊢
        exact close I9 q9
      | true =>
        simp only [if_true] at q9 ⊢
        refine thnF (he.run _ s9 σ8 H9 _ I9 q9) fun z s10 ⟨yv, H10, I10, r10, a, k, L, ey, sqa, hD10, sqL, few, nx⟩ => ?_
        subst ey
        obtain rfl : z = Value.ref a := r10
        exact put_tup (X := X.blk sC HC scope ce fp) hu I10 hD10 sqL sqa few fun s11 L' c1 c2 I11 => close I11 (nx L' c1 c2)
  show codeAny _ _ (.compStart (.SetComp elt [⟨tg, iter, ifs, 0⟩] scope pos) 0 (.ref it) (.ref D) (compEnvC scope cl sC.heap.objs.size X.env)) (compPost (model X.prog X.w) X.A X.xe none (EP X pins σ Q) (.ref D) sC.heap.objs.size) sK
  rw [eEnv]
  exact PpSet.codeAny_compStart_set turns (T.self X.A 0 _ _ _ tnK turns)
end
end MP

/-! Mirror layer, part 11: sorted({pair for ..}). -/
namespace MP
open PySem PySem.Spec PyProof.Rows L2

def prM (p : Int × Int) : MV := .tup [.int p.1, .int p.2]
def prs? : List MV → Option (List (Int × Int))
  | [] => some []
  | a :: l => match a with
    | .tup [.int i, .int j] => match prs? l with
      | some r => some ((i, j) :: r)
      | none => none
    | _ => none
theorem prs?_eq : ∀ {l : List MV} {ps : List (Int × Int)}, prs? l = some ps → l = ps.map prM
  | [], ps, h => by cases h; rfl
  | a :: l, ps, h => by
    unfold prs? at h
    split at h
    · rename_i i j
      cases e : prs? l with
      | none => simp [e] at h
      | some r =>
        simp only [e, Option.some.injEq] at h
        subst h
        rw [prs?_eq e]; rfl
    · cases h
@[simp] theorem prs?_map : ∀ ps : List (Int × Int), prs? (ps.map prM) = some ps
  | [] => rfl
  | (i, j) :: ps => by
    rw [List.map_cons]
    show prs? (.tup [.int i, .int j] :: ps.map prM) = _
    rw [prs?, prs?_map ps]
theorem prM_inj {p q : Int × Int} (h : prM p = prM q) : p = q := by
  simp only [prM, MV.tup.injEq, List.cons.injEq, MV.int.injEq, and_true] at h
  exact Prod.ext h.1 h.2
def pcode (p : Int × Int) : Int := p.1 * 64 + p.2
def inP (p : Int × Int) : Bool := decide (0 ≤ p.1) && decide (p.1 < 64) && decide (0 ≤ p.2) && decide (p.2 < 64)
theorem inP_iff {p : Int × Int} (h : inP p = true) : 0 ≤ p.1 ∧ p.1 < 64 ∧ 0 ≤ p.2 ∧ p.2 < 64 := by
  simp only [inP, Bool.and_eq_true, decide_eq_true_eq] at h
  exact ⟨h.1.1.1, h.1.1.2, h.1.2, h.2⟩
theorem pcode_inj {p q : Int × Int} (hp : inP p = true) (hq : inP q = true) (h : pcode p = pcode q) : p = q := by
  have := inP_iff hp
  have := inP_iff hq
  unfold pcode at h
  exact Prod.ext (by omega) (by omega)
def insP (x : Int × Int) : List (Int × Int) → List (Int × Int)
  | [] => [x]
  | y :: l => if pcode x < pcode y then x :: y :: l else if x = y then y :: l else y :: insP x l
def setP : List (Int × Int) → List (Int × Int)
  | [] => []
  | x :: l => insP x (setP l)
theorem mem_insP {x y : Int × Int} : ∀ {l : List (Int × Int)}, y ∈ insP x l ↔ y = x ∨ y ∈ l
  | [] => by simp [insP]
  | z :: l => by
    unfold insP
    split
    · simp
    · split
      · rename_i e
        subst e
        simp
      · rw [List.mem_cons, mem_insP, List.mem_cons]
        constructor
        · rintro (h | h | h)
          · exact .inr (.inl h)
          · exact .inl h
          · exact .inr (.inr h)
        · rintro (h | h | h)
          · exact .inr (.inl h)
          · exact .inl h
          · exact .inr (.inr h)
theorem mem_setP {y : Int × Int} : ∀ {l : List (Int × Int)}, y ∈ setP l ↔ y ∈ l
  | [] => by simp [setP]
  | x :: l => by rw [setP, mem_insP, mem_setP, List.mem_cons]
def Asc (l : List (Int × Int)) : Prop := l.Pairwise fun p q => pcode p < pcode q
theorem asc_insP {x : Int × Int} (hx : inP x = true) : ∀ {l : List (Int × Int)}, (∀ y ∈ l, inP y = true) → Asc l → Asc (insP x l)
  | [], _, _ => by simp [insP, Asc]
  | z :: l, hb, h => by
    unfold insP
    have h' := List.pairwise_cons.mp h
    split
    · rename_i lt
      exact List.pairwise_cons.mpr ⟨fun y hy => (List.mem_cons.mp hy).elim (fun e => by rw [e]; exact lt) fun hy => Int.lt_trans lt (h'.1 y hy), h⟩
    · rename_i nlt
      split
      · exact h
      · rename_i ne
        have gt : pcode z < pcode x := by
          rcases Int.lt_trichotomy (pcode x) (pcode z) with q | q | q
          · exact absurd q nlt
          · exact absurd (pcode_inj hx (hb z List.mem_cons_self) q) ne
          · exact q
        refine List.pairwise_cons.mpr ⟨fun y hy => ?_, asc_insP hx (fun y hy => hb y (List.mem_cons_of_mem _ hy)) h'.2⟩
        rcases mem_insP.mp hy with e | hy
        · rw [e]; exact gt
        · exact h'.1 y hy
theorem asc_setP : ∀ {l : List (Int × Int)}, (∀ y ∈ l, inP y = true) → Asc (setP l)
  | [], _ => by simp [setP, Asc]
  | x :: l, h => asc_insP (h x List.mem_cons_self) (fun y hy => h y (List.mem_cons_of_mem _ (mem_setP.mp hy))) (asc_setP fun y hy => h y (List.mem_cons_of_mem _ hy))
/-- ascending lists with the same things are the same -/
theorem asc_unique : ∀ {l r : List (Int × Int)}, Asc l → Asc r → (∀ x, x ∈ l ↔ x ∈ r) → l = r
  | [], [], _, _, _ => rfl
  | [], y :: r, _, _, h => by have := (h y).mpr List.mem_cons_self; simp at this
  | x :: l, [], _, _, h => by have := (h x).mp List.mem_cons_self; simp at this
  | x :: l, y :: r, h1, h2, h => by
    have a := List.pairwise_cons.mp h1
    have b := List.pairwise_cons.mp h2
    have e : x = y := by
      have hx := (h x).mp List.mem_cons_self
      have hy := (h y).mpr List.mem_cons_self
      rcases List.mem_cons.mp hx with e | hx
      · exact e
      · rcases List.mem_cons.mp hy with e | hy
        · exact e.symm
        · have := a.1 y hy
          have := b.1 x hx
          omega
    subst e
    rw [asc_unique a.2 b.2 fun z => ?_]
    constructor
    · intro hz
      rcases List.mem_cons.mp ((h z).mp (List.mem_cons_of_mem _ hz)) with e | q
      · have := a.1 z hz
        rw [e] at this; omega
      · exact q
    · intro hz
      rcases List.mem_cons.mp ((h z).mpr (List.mem_cons_of_mem _ hz)) with e | q
      · have := b.1 z hz
        rw [e] at this; omega
      · exact q
theorem nodup_le {α : Type} [DecidableEq α] : ∀ {l D : List α}, l.Nodup → (∀ x ∈ l, x ∈ D) → l.length ≤ D.length
  | [], _, _, _ => Nat.zero_le _
  | a :: l, D, nd, h => by
    have nd' := List.nodup_cons.mp nd
    have ha := h a List.mem_cons_self
    have := nodup_le (D := D.erase a) nd'.2 fun x hx => (List.mem_erase_of_ne (fun e => nd'.1 (by rw [← e]; exact hx))).mpr (h x (List.mem_cons_of_mem _ hx))
    rw [List.length_erase_of_mem ha] at this
    have : 0 < D.length := List.length_pos_of_mem ha
    rw [List.length_cons]; omega
def okP (ps : List (Int × Int)) : Bool := ps.all inP && decide ((setP ps).length ≤ 62)
def toL (p : Int × Int) : List Int := [p.1, p.2]

/-- what stands in the set being built -/
structure InS (c : C) (ι β : List Addr) (H : Hp) (ps : List (Int × Int)) (L : List (Addr × List Int)) : Prop where
  rep : ∀ q ∈ L, ∃ p : Int × Int, q.2 = toL p ∧ p ∈ ps ∧ RepV c.K ι β H (prM p) (.ref q.1)
  all : ∀ p ∈ ps, toL p ∈ L.map (·.2)
  nd : (L.map (·.2)).Nodup
section
variable {c : C} {ι ι' β β' : List Addr} {H H' : Hp} {ps : List (Int × Int)} {L L' : List (Addr × List Int)}
theorem toL_inj {p q : Int × Int} (h : toL p = toL q) : p = q := by
  simp only [toL, List.cons.injEq, and_true] at h
  exact Prod.ext h.1 h.2
theorem InS.move (f : Mov ι β H ι' β' H') (h : InS c ι β H ps L) : InS c ι' β' H' ps L :=
  ⟨fun q hq => let ⟨p, e, m, r⟩ := h.rep q hq; ⟨p, e, m, r.move f⟩, h.all, h.nd⟩
theorem pr_rep {p : Int × Int} {v : V} (h : RepV c.K ι β H (prM p) v) : ∃ a, v = .ref a ∧ SqT c.K H a ((toL p).map V.int) := by
  obtain ⟨a, vs, e, sq, r⟩ := h.tup_iff
  obtain ⟨v1, v2, rfl, r1, r2⟩ := Vs2 r
  rw [ri r1, ri r2] at sq
  exact ⟨a, e, sq⟩
theorem InS.few (h : InS c ι β H ps L) {qs : List (Int × Int)} (sub : ∀ p ∈ ps, p ∈ qs) (ok : okP qs = true) : L.length + 1 < 64 := by
  unfold okP at ok
  simp only [Bool.and_eq_true, decide_eq_true_eq] at ok
  have := nodup_le (D := (setP qs).map toL) h.nd fun x hx => by
    obtain ⟨q, hq, rfl⟩ := List.mem_map.mp hx
    obtain ⟨p, e, m, _⟩ := h.rep q hq
    rw [e]
    exact List.mem_map.mpr ⟨p, mem_setP.mpr (sub p m), rfl⟩
  rw [List.length_map, List.length_map] at this
  omega
theorem InS.put {p : Int × Int} {a : Addr} (h : InS c ι β H ps L) (r : RepV c.K ι β H (prM p) (.ref a)) (c1 : toL p ∈ L.map (·.2) → L' = L) (c2 : toL p ∉ L.map (·.2) → L'.Perm ((a, toL p) :: L)) : InS c ι β H (ps ++ [p]) L' := by
  by_cases z : toL p ∈ L.map (·.2)
  · rw [c1 z]
    exact ⟨fun q hq => let ⟨p', e, m, r⟩ := h.rep q hq; ⟨p', e, List.mem_append_left _ m, r⟩, fun p' hp => (List.mem_append.mp hp).elim (h.all p') fun e => by rw [List.mem_singleton.mp e]; exact z, h.nd⟩
  · have pm := c2 z
    have pm2 : (L'.map (·.2)).Perm (toL p :: L.map (·.2)) := pm.map (·.2)
    refine ⟨fun q hq => ?_, fun p' hp => ?_, pm2.nodup_iff.mpr (List.nodup_cons.mpr ⟨z, h.nd⟩)⟩
    · rcases List.mem_cons.mp (pm.mem_iff.mp hq) with e | hq
      · rw [e]; exact ⟨p, rfl, by simp, r⟩
      · obtain ⟨p', e, m, r⟩ := h.rep q hq
        exact ⟨p', e, List.mem_append_left _ m, r⟩
    · rw [pm2.mem_iff]
      rcases List.mem_append.mp hp with hp | hp
      · exact List.mem_cons_of_mem _ (h.all p' hp)
      · rw [List.mem_singleton.mp hp]; exact List.mem_cons_self
end

/-! ### the loop -/
def PostT (c : C) (P : Program) (w : World) (ι1 β : List Addr) (H1 : Hp) (D : Addr) (aps : List (Int × Int)) (Q : Hp → Prop) : R (List MV) → Prop
  | .ok r h' => ∃ qs : List (Int × Int), aps.map prM ++ r = qs.map prM ∧ okP qs = true ∧ ∀ ι' H' L, Fr ι1 H1 ι' H' → Rel c ι' (D :: β) H' h' → H' D = some (SetTO P w D L) → InS c ι' (D :: β) H' qs L → Q H'
  | _ => False
theorem set_nofrz {P : Program} {w : World} {D : Addr} (L : List (Addr × List Int)) (od : Obj) (u : HO) : SetTO P w D L ≠ .frz od u := fun z => by unfold SetTO at z; cases z
theorem vw_set {P : Program} {w : World} {D : Addr} {L : List (Addr × List Int)} {o : HO} (h : Vw (SetTO P w D L) o) : o = SetTO P w D L := by
  rcases h with h | ⟨l, h | ⟨od, h⟩, _⟩
  · exact h.symm
  · unfold SetTO at h; cases h
  · unfold SetTO at h; cases h
theorem wipe_wipe (σ : St) (vs : List Nat) : wipe (wipe σ vs) vs = wipe σ vs := by
  have gen : ∀ (ws : List Nat) (τ : St), (∀ j ∈ ws, ∀ v, τ[j]? = some v → v = none) → wipe τ ws = τ := by
    intro ws
    induction ws with
    | nil => intro τ _; rfl
    | cons k ws ih =>
      intro τ h
      unfold wipe
      rw [ih τ fun j hj => h j (List.mem_cons_of_mem _ hj)]
      apply List.ext_getElem?
      intro j
      rw [List.getElem?_set]
      split
      · rename_i e
        subst e
        split
        · rename_i hk
          cases e2 : τ[k]? with
          | none => rw [List.getElem?_eq_getElem hk] at e2; cases e2
          | some v => rw [h k List.mem_cons_self v e2]
        · rename_i hk
          rw [List.getElem?_eq_none (by omega)]
      · rfl
  refine gen vs _ fun j hj v hv => ?_
  cases v with
  | none => rfl
  | some z => exact absurd hj (wipe_some hv).2
theorem sc_of {c : C} {P : Program} {w : World} {J : It} {items : List MV} {chk : MH → Bool} {inv : List Addr → List Addr → Hp → Prop} {ι1 β : List Addr} {H1 : Hp} {mh : MH} {σm : Lo} {σ : St} {p : TP} {t : TM} {e : EM} {g : TG} {vs : List Nat} {D : Addr} {Q : Hp → Prop}
    (S : Src c J items chk inv) (rd : RdOk c vs g p) (rel : Rel c ι1 β H1 mh) (rl : RepL c.K ι1 β H1 σm σ) (hi : inv ι1 β H1) (hD : H1 D = none)
    (q : PostT c P w ι1 β H1 D [] Q (lcGo chk p t e items (clrL vs σm) mh)) :
    ∃ Wl : Nat → Nat → Hp → Prop, (∃ m, Wl 0 m (upd H1 D (SetTO P w D []))) ∧ ∀ i m H, Wl i m H → (J.stop i H ∧ Q H) ∨
      (J.go i H ∧ ∃ Go : Hp → Prop, (∀ H', Go H' → ∃ m', m' < m ∧ Wl (i + 1) m' H') ∧
        ∀ x H', J.yld i H x H' → g x (wipe σ vs) H' fun σ2 H2 => wipe σ2 vs = wipe σ vs ∧ tT c W0 t σ2 H2 fun b H3 =>
          if b = true then tE c W0 e σ2 H3 fun y H4 => ∃ (a : Addr) (k : List Int) (L : List (Addr × List Int)), y = .ref a ∧ SqT c.K H4 a (k.map V.int) ∧ H4 D = some (SetTO P w D L) ∧ (∀ p ∈ L, SqT c.K H4 p.1 (p.2.map V.int)) ∧ L.length + 1 < 64 ∧
            ∀ L', (k ∈ L.map (·.2) → L' = L) → (k ∉ L.map (·.2) → L'.Perm ((a, k) :: L)) → Go (upd H4 D (SetTO P w D L'))
          else Go H3) := by
  let Inv' : Nat → Hp → Prop := fun i H => ∃ ι mh aps L, Rel c ι (D :: β) H mh ∧ RepL c.K ι (D :: β) H (clrL vs σm) (wipe σ vs) ∧ inv ι (D :: β) H ∧ Fr ι1 H1 ι H ∧ H D = some (SetTO P w D L) ∧ InS c ι (D :: β) H aps L ∧
    PostT c P w ι1 β H1 D aps Q (lcGo chk p t e (items.drop i) (clrL vs σm) mh)
  refine ⟨fun i m H => m = items.length - i ∧ i ≤ items.length ∧ Inv' i H,
    ⟨items.length, by simp, Nat.zero_le _, ι1, mh, [], [], rel.ban' hD (set_nofrz _), (rl.clear vs).move (Mov.ban hD), S.ban _ _ _ _ _ hi hD, Fr.updN .refl hD, upd_same, ⟨fun _ z => by simp at z, fun _ z => by simp at z, by simp⟩, by simpa using q⟩, ?_⟩
  rintro i m H ⟨rfl, hle, ι, mh, aps, L, rel, rl, hi, fr, hDl, ins, q⟩
  by_cases hlt : i < items.length
  · rw [List.drop_eq_getElem_cons hlt] at q
    unfold lcGo at q
    split at q
    · rename_i hc
      obtain ⟨go, yl⟩ := S.go ι (D :: β) H mh i items[i] rel hi hc (List.getElem?_eq_getElem hlt)
      refine .inr ⟨go, Inv' (i + 1), fun H' hN => ⟨items.length - (i + 1), by omega, rfl, hlt, hN⟩, fun x H' hy => ?_⟩
      obtain ⟨f1, rel1, rx⟩ := yl x H' hy
      cases ea : asP p items[i] (clrL vs σm) with
      | none => simp only [ea] at q; exact q.elim
      | some σ1 =>
        simp only [ea] at q
        refine rd ι (D :: β) H' mh items[i] x _ _ σ1 _ rel1 (rl.mono f1) rx ea fun σ' rl' hw => ⟨hw.trans (wipe_wipe σ vs), ?_⟩
        have frH' := fr.trans f1
        refine ⟨ι, D :: β, mh, σ1, rel1, rl', ?_⟩
        have hDk : ∀ {ι' : List Addr} {H2 : Hp}, Fr ι H' ι' H2 → H2 D = some (SetTO P w D L) := fun {ι' H2} f2 => by
          obtain ⟨_, _, nD, _⟩ := rel.ban D List.mem_cons_self
          obtain ⟨o1, e1, w1⟩ := f1.keep D _ hDl nD
          rw [vw_set w1] at e1
          obtain ⟨o2, e2, w2⟩ := f2.keep D _ e1 nD
          rw [e2, vw_set w2]
        cases et : t σ1 mh with
        | ok k h1 =>
          simp only [et] at q
          intro ι2 H2 b f2 rel2 hb
          obtain rfl : k = b := hb
          cases k with
          | true =>
            rw [if_pos rfl] at q ⊢
            refine ⟨ι2, D :: β, h1, σ1, rel2, rl'.mono f2, ?_⟩
            cases ee : e σ1 h1 with
            | ok v h2 =>
              simp only [ee] at q
              intro ι3 H3 y f3 rel3 ry
              cases er : lcGo chk p t e (items.drop (i + 1)) (clrL vs σm) h2 with
              | ok r h3 =>
                simp only [er] at q
                obtain ⟨qs, eqs, okq, q⟩ := q
                have hv : ∃ pr : Int × Int, v = prM pr ∧ pr ∈ qs ∧ ∀ a ∈ aps, a ∈ qs := by
                  have mv : v ∈ qs.map prM := by rw [← eqs]; simp
                  obtain ⟨pr, hpr, e⟩ := List.mem_map.mp mv
                  refine ⟨pr, e.symm, hpr, fun a ha => ?_⟩
                  have ma : prM a ∈ qs.map prM := by rw [← eqs]; exact List.mem_append_left _ (List.mem_map.mpr ⟨a, ha, rfl⟩)
                  obtain ⟨b, hb, e⟩ := List.mem_map.mp ma
                  rw [← prM_inj e]; exact hb
                obtain ⟨pr, rfl, hpr, sub⟩ := hv
                have f23 := f2.trans f3
                have hD3 := hDk f23
                have ins3 : InS c ι3 (D :: β) H3 aps L := ins.move (f1.trans f23).mov
                obtain ⟨a, rfl, sqa⟩ := pr_rep ry
                refine ⟨a, toL pr, L, rfl, sqa, hD3, fun p hp => ?_, ins3.few sub okq, fun L' c1 c2 => ?_⟩
                · obtain ⟨p', e, _, r⟩ := ins3.rep p hp
                  obtain ⟨a', ea', sq'⟩ := pr_rep r
                  cases ea'
                  rw [e]; exact sq'
                · refine ⟨ι3, h2, aps ++ [pr], L', rel3.turn (set_nofrz _), (rl.mono (f1.trans f23)).move Mov.turn, S.turn _ _ _ _ _ (S.mono _ _ _ _ _ (f1.trans f23) hi), Fr.updN (frH'.trans f23) hD, upd_same, (ins3.put ry c1 c2).move Mov.turn, ?_⟩
                  rw [er]
                  exact ⟨qs, by simpa using eqs, okq, q⟩
              | ex a b => simp only [er] at q; exact q.elim
              | bad => simp only [er] at q; exact q.elim
            | ex a b => simp only [ee] at q; exact q.elim
            | bad => simp only [ee] at q; exact q.elim
          | false =>
            rw [if_neg Bool.false_ne_true] at q ⊢
            exact ⟨ι2, h1, aps, L, rel2, rl.mono (f1.trans f2), S.mono _ _ _ _ _ (f1.trans f2) hi, frH'.trans f2, hDk f2, ins.move (f1.trans f2).mov, q⟩
        | ex a b => simp only [et] at q; exact q.elim
        | bad => simp only [et] at q; exact q.elim
    · exact q.elim
  · have ei : i = items.length := by omega
    subst ei
    rw [List.drop_length] at q
    unfold lcGo at q
    split at q
    · rename_i hc
      obtain ⟨qs, eqs, okq, q⟩ := q
      have : aps = qs := by
        rw [List.append_nil] at eqs
        have e2 := congrArg prs? eqs
        rw [prs?_map, prs?_map] at e2
        exact Option.some.inj e2
      subst this
      exact .inl ⟨S.stop ι (D :: β) H mh rel hi hc, q ι H L fr rel hDl ins⟩
    · exact q.elim
/-- sorted({e for p in r if t}), e pairs of small numbers -/
def mSc (r : IM) (p : TP) (t : TM) (e : EM) (vs : List Nat) (fin : List MV → MH → R MV) : EM := fun σ h => bindR (r σ h) fun lc h1 =>
  match lcGo lc.2 p t e lc.1 (clrL vs σ) h1 with
    | .ok l h2 => match prs? l with
      | some ps => if okP ps = true then fin ((setP ps).map prM) h2 else .bad
      | none => .bad
    | _ => .bad
section
variable {X : Cx} {c : C} {W : WX}
theorem mSc_of {P : Program} {w : World} {r : IM} {p : TP} {t : TM} {e : EM} {vs : List Nat} {fin : List MV → MH → R MV} {g : TG} {σ : St} {H : Hp} {Q : VK} (fo : FinN c fin) (rd : RdOk c vs g p) (h : tE c W (mSc r p t e vs fin) σ H Q) :
    tScT P w c.K (tI c W r) g (tT c W0 t) (tE c W0 e) vs σ H fun x H1 => rSortedT c.K P w [x] H1 Q := by
  obtain ⟨ι, β, mh, σm, rel, rl, q⟩ := h
  refine ⟨ι, β, mh, σm, rel, rl, ?_⟩
  unfold mSc at q
  cases er : r σm mh with
  | ok lc h1 =>
    obtain ⟨l, chk⟩ := lc
    simp only [er, bindR] at q
    intro ι' H' J inv f rel' S hi D hD
    refine sc_of S rd rel' (rl.mono f) hi hD ?_
    cases el : lcGo chk p t e l (clrL vs σm) h1 with
    | ok l2 h2 =>
      simp only [el] at q
      cases ep : prs? l2 with
      | none => simp only [ep] at q; exact q.elim
      | some ps =>
        simp only [ep] at q
        split at q
        · rename_i ok
          refine ⟨ps, by rw [← prs?_eq ep]; rfl, ok, fun ι2 H2 L f2 rel2 hD2 ins => ?_⟩
          have ok' := ok
          unfold okP at ok'
          simp only [Bool.and_eq_true, decide_eq_true_eq, List.all_eq_true] at ok'
          have inL : ∀ q ∈ L, ∃ pr : Int × Int, q.2 = toL pr ∧ pr ∈ ps ∧ RepV c.K ι2 β H2 (prM pr) (.ref q.1) := fun q hq => by
            obtain ⟨pr, e, m, r⟩ := ins.rep q hq
            exact ⟨pr, e, m, r.move Mov.free⟩
          refine ⟨D, L, 2, 64, rfl, hD2, fun q hq => ?_, by decide, fun q hq => ?_, fun L' z pm nd few pw hz => ?_⟩
          · obtain ⟨pr, e, _, r⟩ := inL q hq
            obtain ⟨a', ea', sq'⟩ := pr_rep r
            cases ea'
            rw [e]; exact sq'
          · obtain ⟨pr, e, m, _⟩ := inL q hq
            have := inP_iff (ok'.1 pr m)
            rw [e]
            refine ⟨rfl, fun x hx => ?_⟩
            simp only [toL, List.mem_cons, List.mem_singleton, List.not_mem_nil, or_false] at hx
            rcases hx with rfl | rfl <;> omega
          · -- the sorted list's pairs
            have pairs : ∀ M : List (Addr × List Int), (∀ q ∈ M, q ∈ L) → ∃ qs : List (Int × Int), M.map (·.2) = qs.map toL ∧ (∀ x ∈ qs, x ∈ ps) ∧ RepVs c.K ι2 β H2 (qs.map prM) (M.map fun q => V.ref q.1) := by
              intro M
              induction M with
              | nil => intro _; exact ⟨[], rfl, fun _ z => by simp at z, .nil⟩
              | cons q M ih =>
                intro hM
                obtain ⟨qs, e1, e2, e3⟩ := ih fun q hq => hM q (List.mem_cons_of_mem _ hq)
                obtain ⟨pr, e, m, r⟩ := inL q (hM q List.mem_cons_self)
                exact ⟨pr :: qs, by rw [List.map_cons, List.map_cons, e, e1], fun x hx => (List.mem_cons.mp hx).elim (fun z => by rw [z]; exact m) (e2 x), .cons r e3⟩
            obtain ⟨qs, e1, e2, e3⟩ := pairs L' fun q hq => pm.mem_iff.mp hq
            have asc : Asc qs := by
              have pw' : (L'.map (·.2)).Pairwise (fun a b => TS.code 64 a ≤ TS.code 64 b) := List.pairwise_map.mpr pw
              rw [e1] at pw' nd
              have pw2 := List.pairwise_map.mp pw'
              have nd2 := List.pairwise_map.mp nd
              refine (pw2.and nd2).imp_of_mem fun {a b} ha hb ⟨h1, h2⟩ => ?_
              have h1 : a.1 * 64 + a.2 ≤ b.1 * 64 + b.2 := by
                rw [← code_pair, ← code_pair]; exact h1
              have ne : pcode a ≠ pcode b := fun z => h2 (by rw [pcode_inj (ok'.1 a (e2 a ha)) (ok'.1 b (e2 b hb)) z])
              unfold pcode at ne ⊢
              omega
            have : qs = setP ps := asc_unique asc (asc_setP ok'.1) fun x => by
              rw [mem_setP]
              refine ⟨e2 x, fun hx => ?_⟩
              have m2 : toL x ∈ L'.map (·.2) := ((pm.map (·.2)).mem_iff).mpr (ins.all x hx)
              rw [e1] at m2
              obtain ⟨y, hy, e⟩ := List.mem_map.mp m2
              rw [← toL_inj e]; exact hy
            subst this
            exact fo _ _ _ _ _ _ _ _ _ rel2.free e3 hz (Post.fr (f.trans f2) q)
        · exact q.elim
    | ex a b => simp only [el] at q; exact q.elim
    | bad => simp only [el] at q; exact q.elim
  | ex x h1 => simp only [er, bindR] at q; exact q
  | bad => simp only [er, bindR] at q; exact q
theorem e_sc {elt tg iter : Expr} {ifs : List Expr} {scope : Scope} {own : List (Str × Nat)} {pos ps ppos : Pos} {r : IM} {p : TP} {t : TM} {e : EM} {g : TG} (fin : List MV → MH → R MV) (fo : FinN c fin) (hu : X.A.units + 64 < cLine) (hK : X.K = c.K) (hc : X.calm = true) (hN : X.N.Nodup)
    (hgs : Gl X "sorted") (hms : X.mg "sorted" = none) (hi : PI X tg iter (tI c W r)) (ok : BlkOk X.N X.env.scope scope own)
    (rd : RdOk c (own.map (·.2)) g p)
    (hg : ∀ (s : Shared) (H : Hp) (C : Addr) (cl : List (Str × Addr)) (fp : List Addr), PG (X.blk s H scope (compEnvC scope cl C X.env) fp) tg g) (ht : ∀ (s : Shared) (H : Hp) (C : Addr) (cl : List (Str × Addr)) (fp : List Addr), PTs (X.blk s H scope (compEnvC scope cl C X.env) fp) ifs (tT c W0 t))
    (he : ∀ (s : Shared) (H : Hp) (C : Addr) (cl : List (Str × Addr)) (fp : List Addr), PE (X.blk s H scope (compEnvC scope cl C X.env) fp) elt (tE c W0 e)) (hs : ∀ x, foldedSetIterable iter X.env x = pure x := by intro _; rfl) :
    PE X (.Call (.Name "sorted" ps) [.SetComp elt [⟨tg, iter, ifs, 0⟩] scope pos] [] ppos) (tE c W (mSc r p t e (own.map (·.2)) fin)) :=
  (pe_callB (cr_sortedT hc) hgs hms boot_sorted (pa_cons (pe_scT hu hc hN hi ok hg ht he hs) pa_nil)).wk fun σ H Q h => by
    rw [hK]
    exact mSc_of fo rd h
end
end MP

/-! Mirror layer, part 12: in, all, max, sorted of dicts, while, pop(i), walking a dict, d[k]: t = v. -/
namespace MP
open PySem PySem.Spec PyProof.Rows L2
section
variable {c : C} {X : Cx} {W : WX}

/-! ### in -/
def rDInX (neg : Bool) : R2 := fun y x H Q => ∃ a o, x = .ref a ∧ DGet H a y o ∧ Q (.bl (if neg then !o.isSome else o.isSome)) H
theorem op_dinX (hu : X.A.units + 1 < cLine) : OpR X (compareOp .In) (rDInX false) := fun pins s σ H y x v u Q I ry rx ⟨a, o, ex, g, q⟩ => by
  subst ex
  obtain rfl : u = Value.ref a := rx
  exact d_in hu I g ry fun s' I' => ⟨.bl o.isSome, H, I', rfl, q⟩
theorem op_dnotinX (hu : X.A.units + 1 < cLine) : OpR X (compareOp .NotIn) (rDInX true) := fun pins s σ H y x v u Q I ry rx ⟨a, o, ex, g, q⟩ => by
  subst ex
  obtain rfl : u = Value.ref a := rx
  exact d_notIn hu I g ry fun s' I' => ⟨.bl (!o.isSome), H, I', rfl, q⟩
def rLInX (K : PySem.W.Frag) (neg : Bool) : R2 := fun x y H Q => ∃ d ds, Dp K H x d ∧ Dp K H y (.list ds) ∧ SeqAt.shaped d = true ∧ SeqAt.shaped (.list ds) = true ∧ Q (.bl (if neg then !(ds.any fun z => PyData.eqv z d) else ds.any fun z => PyData.eqv z d)) H
theorem op_inA (hu : X.A.units + 65 < cLine) : OpR X (compareOp .In) (fun x y H Q => rDInX false x y H Q ∨ rLInX X.K false x y H Q) := (op_dinX (by omega)).or (op_inD hu)
theorem op_notInA (hu : X.A.units + 65 < cLine) : OpR X (compareOp .NotIn) (fun x y H Q => rDInX true x y H Q ∨ rLInX X.K true x y H Q) := (op_dnotinX (by omega)).or (op_notInD hu)
def inL (neg : Bool) (a b : MV) (h : MH) : R MV := match toD h 12 a, toD h 12 b with
  | some d, some (.list ds) => if (SeqAt.shaped d && SeqAt.shaped (.list ds)) = true then .ok (.bl (if neg then !(ds.any fun z => PyData.eqv z d) else ds.any fun z => PyData.eqv z d)) h else .bad
  | _, _ => .bad
def mInX (neg : Bool) (a b : MV) (h : MH) : R MV := match asD b h with
  | some kvs => match mkey a with
    | some _ => .ok (.bl (if neg then !(lookKV kvs a).isSome else (lookKV kvs a).isSome)) h
    | none => .bad
  | none => inL neg a b h
theorem p_inX (neg : Bool) : P2 c (fun x y H Q => rDInX neg x y H Q ∨ rLInX c.K neg x y H Q) (mInX neg) := fun ι β H mh a b x y Q W rel ra rb p => by
  unfold mInX at p
  cases ed : asD b mh with
  | some kvs =>
    simp only [ed] at p
    cases ek : mkey a with
    | none => simp only [ek] at p; exact p.elim
    | some k =>
      simp only [ek] at p
      obtain ⟨d, l, o, rfl, hd, iv, r⟩ := asD_rep ed rel rb
      have dg := dget_of hd iv k
      obtain ⟨l1, l2⟩ := look_rep ek r
      have e : (valV l k).isSome = (lookKV kvs a).isSome := by
        cases el : lookKV kvs a with
        | none => rw [l2 el]; rfl
        | some m => obtain ⟨v, ev, _⟩ := l1 m el; rw [ev]; rfl
      rw [mkey_rep ek ra]
      refine .inl ⟨d, _, rfl, dg, ?_⟩
      rw [e]
      exact p ι H _ .refl rel (rbl _ _ _)
  | none =>
    simp only [ed] at p
    unfold inL at p
    split at p
    · rename_i d ds h1 h2
      split at p
      · rename_i hs
        rw [Bool.and_eq_true] at hs
        exact .inr ⟨d, ds, toD_dp rel _ _ _ _ h1 ra, toD_dp rel _ _ _ _ h2 rb, hs.1, hs.2, p ι H _ .refl rel (rbl _ _ _)⟩
      · exact p.elim
    · exact p.elim
def mIn := mInX false
def mNotIn := mInX true
theorem p_inA : P2 c (fun x y H Q => rDInX false x y H Q ∨ rLInX c.K false x y H Q) mIn := p_inX false
theorem p_notInA : P2 c (fun x y H Q => rDInX true x y H Q ∨ rLInX c.K true x y H Q) mNotIn := p_inX true

/-! ### all, any -/
def bls? : List MV → Option (List Bool)
  | [] => some []
  | a :: l => match a with
    | .bl b => match bls? l with
      | some r => some (b :: r)
      | none => none
    | _ => none
theorem bls?_eq : ∀ {l : List MV} {bs : List Bool}, bls? l = some bs → l = bs.map .bl
  | [], ps, h => by cases h; rfl
  | a :: l, ps, h => by
    unfold bls? at h
    split at h
    · rename_i b
      cases e : bls? l with
      | none => simp [e] at h
      | some r =>
        simp only [e, Option.some.injEq] at h
        subst h
        rw [bls?_eq e]; rfl
    · cases h
@[simp] theorem bls?_map : ∀ bs : List Bool, bls? (bs.map .bl) = some bs
  | [] => rfl
  | b :: bs => by rw [List.map_cons, bls?, bls?_map bs]
theorem bls_rep {K : PySem.W.Frag} {ι β : List Addr} {H : Hp} : ∀ {bs : List Bool} {vs : List V}, RepVs K ι β H (bs.map .bl) vs → vs = bs.map V.bl
  | [], vs, h => h.nil_iff
  | b :: bs, vs, h => by
    obtain ⟨v, r, rfl, q, t⟩ := h.cons_iff
    rw [rb q, bls_rep t]; rfl
def mAllX (f : List Bool → Bool) (as : List MV) (h : MH) : R MV := match as with
  | [a] => match asL a h with
    | some l => match bls? l with
      | some bs => .ok (.bl (f bs)) h
      | none => .bad
    | none => .bad
  | _ => .bad
def mAll := mAllX fun bs => bs.all id
def mAny := mAllX fun bs => bs.any id
theorem p_allX (f : List Bool → Bool) : PN c (fun vs H Q => ∃ (a : Addr) (bs : List Bool), vs = [V.ref a] ∧ SqL c.K H a (bs.map V.bl) ∧ Q (.bl (f bs)) H) (mAllX f) := fun ι β H mh as xs Q W rel ra p => by
  unfold mAllX at p
  split at p
  · rename_i a
    obtain ⟨v, rfl, q⟩ := Vs1 ra
    cases el : asL a mh with
    | none => simp only [el] at p; exact p.elim
    | some l =>
      simp only [el] at p
      cases eb : bls? l with
      | none => simp only [eb] at p; exact p.elim
      | some bs =>
        simp only [eb] at p
        obtain ⟨d, vs, rfl, sq, r⟩ := asL_rep el rel q
        rw [bls?_eq eb] at r
        rw [bls_rep r] at sq
        exact ⟨d, bs, rfl, .inl (.inl sq), p ι H _ .refl rel (rbl _ _ _)⟩
  · exact p.elim
theorem p_all : PN c (rAll c.K) mAll := p_allX _
theorem p_any : PN c (rAny c.K) mAny := p_allX _

/-! ### max of a list of pairs; of two ints -/
def ltP (p q : Int × Int) : Bool := decide (p.1 < q.1 ∨ (p.1 = q.1 ∧ p.2 < q.2))
def maxP (x : Int × Int) (l : List (Int × Int)) : Int × Int := l.foldl (fun a y => if ltP a y = true then y else a) x
def prD (p : Int × Int) : PyData := .tuple [.int p.1, .int p.2]
theorem prD_inj {p q : Int × Int} (h : prD p = prD q) : p = q := by
  simp only [prD, PyData.tuple.injEq, List.cons.injEq, PyData.int.injEq, and_true] at h
  exact Prod.ext h.1 h.2
theorem maxD_pr (x : Int × Int) (l : List (Int × Int)) : PySem.W.maxD (prD x) (l.map prD) = prD (maxP x l) := by
  unfold PySem.W.maxD maxP
  induction l generalizing x with
  | nil => rfl
  | cons y l ih =>
    rw [List.map_cons, List.foldl_cons, List.foldl_cons]
    have e : PySem.W.dataLt (prD x) (prD y) = ltP x y := PySem.W.dataLt_ii x.1 x.2 y.1 y.2
    rw [e]
    cases ltP x y with
    | true => simp only [if_true]; exact ih y
    | false => simp only [Bool.false_eq_true, if_false]; exact ih x
def rMaxP (K : PySem.W.Frag) : List V → Hp → VK → Prop := fun vs H Q => ∃ (a : Addr) (xs : List V) (x : Int × Int) (ps : List (Int × Int)), vs = [V.ref a] ∧ SqL K H a xs ∧ DpAll K H xs ((x :: ps).map prD) ∧ ∀ (i : Nat) v, xs[i]? = some v → (x :: ps)[i]? = some (maxP x ps) → Q v H

theorem pr_alike (p q : Int × Int) : PySem.W.alike (prD p) (prD q) = true := by simp [prD, PySem.W.alike, PySem.W.alikeAll]
theorem pr_depths : ∀ l : List (Int × Int), PyData.depthAll (l.map prD) ≤ 1
  | [] => by simp [PyData.depthAll]
  | p :: l => by
    rw [List.map_cons, PyData.depthAll]
    have : PyData.depth (prD p) = 1 := by simp [prD, PyData.depth, PyData.depthAll]
    have := pr_depths l
    omega
theorem cr_maxP (hc : X.calm = true) (hu : X.A.units + 64 < cLine) : CallR X (.builtin "max") (rMaxP X.K) := by
  intro pins s σ H vs us Q I r h
  obtain ⟨a, xs, x, ps, rfl, sq, dp, q⟩ := h
  rw [Vals.ref1 r]
  obtain ⟨its, rv, pl, hz⟩ := I.list sq
  obtain ⟨as, rd⟩ := Dp.readsAll I _ _ _ dp rv
  have al : PySem.W.AlikeAll ((x :: ps).map prD) := ⟨fun u hu v hv => by
    obtain ⟨p, _, rfl⟩ := List.mem_map.mp hu
    obtain ⟨q, _, rfl⟩ := List.mem_map.mp hv
    exact pr_alike p q, fun u hu => by
    obtain ⟨p, _, rfl⟩ := List.mem_map.mp hu
    simp [prD]⟩
  rw [List.map_cons] at rd al
  refine PySem.W.max_list_data (I.ok.hd hc) pl.isList rd al ?_ fun i v h' tk bs hv hr hk => ?_
  · have := pr_depths (x :: ps)
    rw [List.map_cons] at this
    omega
  · rw [maxD_pr] at hr
    have hv' : its[i]? = some v := by simpa using hv
    obtain ⟨bs2, r2, hi, _⟩ := PySem.W.readsAll_at rd i v hv'
    obtain ⟨e, _⟩ := reads_det (fun b o e _ => hk b o e) r2 hr
    have hi' : i < (x :: ps).length := by simpa using hi
    have ei : (x :: ps)[i]? = some (maxP x ps) := by
      have e2 : (prD x :: ps.map prD).getD i .none = prD ((x :: ps)[i]) := by
        rw [← List.map_cons, List.getD_eq_getElem?_getD, List.getElem?_map, List.getElem?_eq_getElem hi']; rfl
      rw [e2] at e
      rw [List.getElem?_eq_getElem hi', prD_inj e]
    have hx : i < xs.length := by rw [Vals.length rv]; exact (List.getElem?_eq_some_iff.mp hv').1
    obtain ⟨u, eu, ru⟩ := Vals.get rv (List.getElem?_eq_getElem hx)
    rw [hv'] at eu
    cases eu
    exact ⟨xs[i], H, I.kept (t' := tk) hk, ru, q i _ (List.getElem?_eq_getElem hx) ei⟩
def mMaxA (as : List MV) (h : MH) : R MV := match as with
  | [a] => match asL a h with
    | some l => match prs? l with
      | some (x :: ps) => .ok (prM (maxP x ps)) h
      | _ => .bad
    | none => .bad
  | _ => mMax as h
def rMaxA (K : PySem.W.Frag) : List V → Hp → VK → Prop := fun xs H Q => (∃ i j, xs = [.int i, .int j] ∧ Q (.int (if j > i then j else i)) H) ∨ rMaxP K xs H Q
theorem cr_maxA (hc : X.calm = true) (hu : X.A.units + 64 < cLine) : CallR X (.builtin "max") (rMaxA X.K) := (call_max2 hc).or (cr_maxP hc hu)
theorem p_maxA : PN c (rMaxA c.K) mMaxA := fun ι β H mh as xs Q W rel ra p => by
  unfold mMaxA at p
  split at p
  · rename_i a
    obtain ⟨v, rfl, q⟩ := Vs1 ra
    cases el : asL a mh with
    | none => simp only [el] at p; exact p.elim
    | some l =>
      simp only [el] at p
      split at p
      · rename_i x ps ep
        obtain ⟨d, vs, rfl, sq, r⟩ := asL_rep el rel q
        rw [prs?_eq ep] at r
        refine .inr ⟨d, vs, x, ps, rfl, .inl (.inl sq), ?_, fun i v hv hm => ?_⟩
        · exact mapO_dp (f := toD mh 3) (toD_dp rel 3) (mapO_map fun _ _ => rfl) r
        · have e : ((x :: ps).map prM)[i]? = some (prM (maxP x ps)) := by rw [List.getElem?_map, hm]; rfl
          obtain ⟨v', ev, rv⟩ := r.get e
          rw [hv] at ev
          cases ev
          exact p ι H _ .refl rel rv
      · exact p.elim
  · exact .inl (p_max ι β H mh _ xs Q W rel ra p)

/-! ### sorted of a dict with whole numbers as keys; of a list of whole numbers -/
def keysI? (kvs : List (MV × MV)) : Option (List Int) := ints? (kvs.map (·.1))
def mSortA (fin : List MV → MH → R MV) (as : List MV) (h : MH) : R MV := match as with
  | [a] => match asD a h with
    | some kvs => match keysI? kvs with
      | some ks => if ks.length < 64 then fin ((isortI ks).map .int) h else .bad
      | none => .bad
    | none => mSortI fin as h
  | _ => mSortI fin as h
def rSortA (K : PySem.W.Frag) : List V → Hp → VK → Prop := fun xs H Q => (∃ (a : Addr) (kvs : List (Key × V)) (ks : List Int), xs = [.ref a] ∧ Rd H a (.dK kvs) ∧ kvs.map (·.1) = ks.map Sum.inl ∧ ks.length < 64 ∧
    ∀ (ys : List Int) (p : Addr), ys.Perm ks → ys.Pairwise (· ≤ ·) → H p = none → Q (.ref p) (upd H p (.lst (ys.map V.int)))) ∨ rSortedI K xs H Q
theorem cr_sortB (hc : X.calm = true) : CallR X (.builtin "sorted") (rSortA X.K) := (call_sortedDI hc).or cr_sortedI
theorem keys_rep {K : PySem.W.Frag} {ι β : List Addr} {H : Hp} : ∀ {kvs : List (MV × MV)} {l : List (Key × V)} {ks : List Int}, RepKV K ι β H kvs l → kvs.map (·.1) = ks.map .int → l.map (·.1) = ks.map Sum.inl
  | [], l, ks, h, e => by
    have z : l = [] := h
    subst z
    cases ks with
    | nil => rfl
    | cons _ _ => cases e
  | (k, m) :: r, l, ks, h, e => by
    obtain ⟨k', v, r', rfl, ek, q, t⟩ := h
    cases ks with
    | nil => cases e
    | cons i ks =>
      simp only [List.map_cons, List.cons.injEq] at e
      obtain ⟨e1, e2⟩ := e
      subst e1
      cases ek
      rw [List.map_cons, List.map_cons, keys_rep t e2]
theorem rep_ints' {K : PySem.W.Frag} {ι β : List Addr} {H : Hp} : ∀ ns : List Int, RepVs K ι β H (ns.map .int) (ns.map V.int)
  | [] => .nil
  | n :: ns => .cons (by unfold RepV; rfl) (rep_ints' ns)
theorem p_sortA {fin : List MV → MH → R MV} (hf : FinN c fin) : PN c (rSortA c.K) (mSortA fin) := fun ι β H mh as xs Q W rel ra p => by
  unfold mSortA at p
  split at p
  · rename_i a
    cases ed : asD a mh with
    | none =>
      simp only [ed] at p
      exact .inr (p_sortI hf ι β H mh _ xs Q W rel ra p)
    | some kvs =>
      simp only [ed] at p
      cases ek : keysI? kvs with
      | none => simp only [ek] at p; exact p.elim
      | some ks =>
        simp only [ek] at p
        split at p
        · rename_i few
          obtain ⟨v, rfl, q⟩ := Vs1 ra
          obtain ⟨d, l, o, rfl, hd, iv, r⟩ := asD_rep ed rel q
          have hr : Rd H d (.dK l) := by
            rcases iv with rfl | ⟨od, rfl⟩
            · exact .inl hd
            · exact .inr ⟨od, hd⟩
          refine .inl ⟨d, l, ks, rfl, hr, keys_rep r (ints?_eq ek), few, fun ys z pm pw hz => ?_⟩
          have : ys = isortI ks := sorted_unique (pm.trans (isortI_perm ks).symm) pw (isortI_sorted ks)
          subst this
          exact hf _ _ _ _ _ _ _ _ _ rel (rep_ints' _) hz p
        · exact p.elim
  · exact .inr (p_sortI hf ι β H mh _ xs Q W rel ra p)

/-! ### while -/
def whGo (t : TM) (body : SM) : Nat → SM
  | 0, _, _ => .bad
  | n + 1, σ, h => bindS (t σ h) σ fun k h1 => if k = true then match body σ h1 with
      | .nx σ2 h2 => whGo t body n σ2 h2
      | .ct σ2 h2 => whGo t body n σ2 h2
      | .bk σ2 h2 => .nx σ2 h2
      | .rt v h2 => .rt v h2
      | .ex e σ2 h2 => .ex e σ2 h2
      | .bad => .bad
    else .nx σ h1
def sWhile (t : TM) (body : SM) : SM := whGo t body 100000
theorem s_while {tst : Expr} {body : List Stmt} {pos : Pos} {t : TM} {rb : SM} (hp : PassesOwn (model X.prog X.w) X.A X.env X.xe) (ht : PT X tst (tT c W t)) (hb : PSs X body (tS c W rb)) : PS X (.While tst body [] pos) (tS c W (sWhile t rb)) :=
  (ps_while hp ht hb).wk fun D σ H ⟨ι, β, mh, σm, rel, rl, q⟩ => by
    refine ⟨fun m σ H => ∃ ι β mh σm, Rel c ι β H mh ∧ RepL c.K ι β H σm σ ∧ PostS c ι β H D W (whGo t rb m σm mh), ⟨100000, ι, β, mh, σm, rel, rl, q⟩, ?_⟩
    rintro m σ H ⟨ι, β, mh, σm, rel, rl, q⟩
    cases m with
    | zero => exact q.elim
    | succ n =>
      unfold whGo at q
      refine (run1S (Rp := RB) rel rl q).mono fun b H1 ⟨ι1, mh1, k, f1, rel1, rl1, hb, p1⟩ => ?_
      obtain rfl : k = b := hb
      cases k with
      | false =>
        simp only [Bool.false_eq_true, if_false] at p1 ⊢
        exact p1 ι1 H1 σ .refl rel1 rl1
      | true =>
        simp only [if_true] at p1 ⊢
        refine ⟨fun σ' H' => ∃ ι β mh σm, Rel c ι β H' mh ∧ RepL c.K ι β H' σm σ' ∧ PostS c ι β H' D W (whGo t rb n σm mh), fun σ' H' hN => ⟨n, Nat.lt_succ_self n, hN⟩, ι1, β, mh1, σm, rel1, rl1, ?_⟩
        cases e2 : rb σm mh1 with
        | nx σ3 h3 => simp only [e2] at p1; exact fun ι3 H3 σ' f3 rel3 rl3 => ⟨ι3, β, h3, σ3, rel3, rl3, PostS.fr f3 p1⟩
        | ct σ3 h3 => simp only [e2] at p1; exact fun ι3 H3 σ' f3 rel3 rl3 => ⟨ι3, β, h3, σ3, rel3, rl3, PostS.fr f3 p1⟩
        | bk σ3 h3 => simp only [e2] at p1; exact p1
        | rt v h3 => simp only [e2] at p1; exact p1
        | ex x σ3 h3 => simp only [e2] at p1; exact p1
        | bad => simp only [e2] at p1; exact p1

/-! ### list.pop(i) -/
def mPop (a : MV) (as : List MV) (h : MH) : R MV := match a, as with
  | .ref n, [.int i] => match h[n]? with
    | some (.lst l) => if (inB i) = true then match ixN l.length i with
        | some k => match l[k]? with
          | some y => .ok y (setH h n (.lst (l.eraseIdx k)))
          | none => .bad
        | none => .bad
      else .bad
    | _ => .bad
  | _, _ => .bad
theorem RepVs.erase {K : PySem.W.Frag} {ι β : List Addr} {H : Hp} : ∀ {l : List MV} {vs : List V} (k : Nat), RepVs K ι β H l vs → RepVs K ι β H (l.eraseIdx k) (vs.eraseIdx k)
  | [], _, _, h => by rw [h.nil_iff]; exact .nil
  | a :: l, _, 0, h => by
    obtain ⟨v, r, rfl, q, t⟩ := h.cons_iff
    exact t
  | a :: l, _, k + 1, h => by
    obtain ⟨v, r, rfl, q, t⟩ := h.cons_iff
    exact .cons q (RepVs.erase k t)
theorem p_popA : PMt c rPopAt mPop := fun ι β H mh a as x xs Q W rel ra ras p => by
  unfold mPop at p
  split at p
  · rename_i n i
    cases eo : mh[n]? with
    | none => simp only [eo] at p; exact p.elim
    | some o =>
      simp only [eo] at p
      cases o with
      | lst l =>
        simp only at p
        split at p
        · rename_i hi
          cases ek : ixN l.length i with
          | none => simp only [ek] at p; exact p.elim
          | some k =>
            simp only [ek] at p
            cases ey : l[k]? with
            | none => simp only [ey] at p; exact p.elim
            | some y =>
              simp only [ey] at p
              unfold RepV at ra
              obtain ⟨b, rfl, ea⟩ := ra
              obtain ⟨o2, e2, ro⟩ := rel.at ea
              rw [eo] at e2; cases e2
              obtain ⟨vs, hv, r⟩ := ro
              obtain ⟨w, rfl, qw⟩ := Vs1 ras
              rw [ri qw]
              obtain ⟨yv, eyv, ryv⟩ := r.get ey
              obtain ⟨b1, b2⟩ := inB_iff hi
              refine ⟨b, vs, i, k, yv, rfl, rfl, hv, by omega, by omega, ?_, eyv, ?_⟩
              · rw [← r.length]; exact (ixN_seq ek).1
              · have nf : ∀ o u, H b ≠ some (.frz o u) := fun o u z => by rw [hv] at z; cases z
                have f := Fr.put (o := .lst (vs.eraseIdx k)) ea nf
                exact p ι _ _ f (rel.put ea nf ⟨_, upd_same, (RepVs.erase k r).mono f⟩) (ryv.mono f)
        · exact p.elim
      | dct _ => exact p.elim
      | fdc _ => exact p.elim
      | ins _ _ => exact p.elim
  · exact p.elim

/-! ### d[k]: t = v -/
theorem s_annD {o i e ann : Expr} {rv ro ri : EM} {p pos : Pos} {simple : Int} (hu : X.A.units + 1 < cLine) (he : PE X e (tE c W rv)) (ho : PE X o (tE c W ro)) (hi : PE X i (tE c W ri))
    (ha : ∀ v, assign (.Subscript o i p) X.env v = (do
      let ov ← holding [v] (eval o X.env)
      let iv ← holding [v, ov] (eval i X.env)
      standAt p
      holding [v, ov, iv] (setItem ov iv v)
      release [v, ov, iv] []) := by intro _; rfl)
    (hs : swapsWith e (some (.Subscript o i p)) pos.line X.env = pure false := by rfl) : PS X (.AnnAssign (.Subscript o i p) ann (some e) simple pos) (tS c W (sSetDx rv ro ri)) :=
  (ps_ann he (pg_sub ho hi (set_dict hu) ha) hs).wk fun D σ H h => sSetDx_of h
theorem s_annN {i : Nat} {x : Str} {e ann : Expr} {rv : EM} {p pos : Pos} {simple : Int} (hN : X.N.Nodup) (hi : X.N[i]? = some x) (hx : Loc X.env.scope x) (hf : X.fn x = true ∨ X.env.scope.names.lookup x = some .local) (he : PE X e (tE c W rv)) (hs : swapsWith e (some (.Name x p)) pos.line X.env = pure false := by rfl) : PS X (.AnnAssign (.Name x p) ann (some e) simple pos) (tS c W (sSet i rv)) :=
  (ps_ann he (pg_name hN hi hx hf) hs).wk fun D σ H ⟨ι, β, mh, σm, rel, rl, q⟩ => by
    refine (run1S rel rl q).mono fun x H1 ⟨ι1, mh1, a, f1, rel1, rl1, ra1, p1⟩ => ?_
    exact p1 ι1 H1 _ .refl rel1 (rl1.set ra1)
end
end MP

/-! Mirror layer, part 13: walking a dict that stays. -/
namespace MP
open PySem PySem.Spec PyProof.Rows L2
section
variable {c : C} {X : Cx} {W : WX} {tg e : Expr} {re : EM}
/-- an expression whose dict may be locked from then on -/
theorem pe_locked {t : TE} (h : PE X e t) : PE X e (fun σ H Q => t σ H fun x H1 => Q x H1 ∨ ∃ a u, H1 a = some u ∧ Mut (some u) ∧ ∀ od, Q x (upd H1 a (.frz od u))) :=
  ⟨fun pins s σ H Q I hw => thn (h.run pins s σ H _ I hw) fun v s1 ⟨x, H1, I1, r, q⟩ => q.elim (fun q => ⟨x, H1, I1, r, q⟩) fun ⟨a, u, hu, mu, q⟩ => by
    obtain ⟨od, I2⟩ := I1.lock hu mu
    exact ⟨x, _, I2, r, q od⟩⟩
/-- what is walked is a dict that nothing changes any more -/
def itD (v : MV) (h : MH) : R (List MV × (MH → Bool)) := match v with
  | .dv ks _ => .ok (ks, fun _ => true) h
  | _ => .bad
def iD (re : EM) : IM := fun σ h => bindR (re σ h) itD
theorem RepKs.len : ∀ {ks : List MV} {r : List Key}, RepKs ks r → ks.length = r.length
  | [], r, h => by
    have z : r = [] := h
    rw [z]; rfl
  | k :: ks, r, h => by
    obtain ⟨k', r', rfl, _, t⟩ := h
    rw [List.length_cons, List.length_cons, RepKs.len t]
theorem RepKs.at : ∀ {ks : List MV} {r : List Key} {i : Nat} {m : MV}, RepKs ks r → ks[i]? = some m → ∃ k, r[i]? = some k ∧ mkey m = some k
  | [], r, i, m, h, e => by simp at e
  | k :: ks, r, 0, m, h, e => by
    obtain ⟨k', r', rfl, ek, t⟩ := h
    simp only [List.getElem?_cons_zero, Option.some.injEq] at e
    subst e
    exact ⟨k', rfl, ek⟩
  | k :: ks, r, i + 1, m, h, e => by
    obtain ⟨k', r', rfl, _, t⟩ := h
    have e' : ks[i]? = some m := by simpa using e
    obtain ⟨q, e1, e2⟩ := RepKs.at t e'
    exact ⟨q, by simpa using e1, e2⟩
theorem src_dict {ks : List MV} {a : Addr} {od : Obj} {l : List (Key × V)} : (hk : RepKs ks (l.map (·.1))) → Src c (Itk a od l) ks (fun _ => true) (fun ι β H => H a = some (.frz od (.dK l)) ∧ a ∉ ι ∧ a ∉ β) := fun hk => by
  have len : ks.length = l.length := by simpa using RepKs.len hk
  have at_ : ∀ (i : Nat) m, ks[i]? = some m → ∃ k v, l[i]? = some (k, v) ∧ mkey m = some k := by
    intro i m hm
    obtain ⟨k, e1, e2⟩ := RepKs.at hk hm
    rw [List.getElem?_map] at e1
    cases el : l[i]? with
    | none => rw [el] at e1; simp at e1
    | some p =>
      rw [el] at e1
      simp only [Option.map_some, Option.some.injEq] at e1
      exact ⟨p.1, p.2, rfl, by rw [e1]; exact e2⟩
  refine ⟨?_, ?_, ?_, ?_, ?_⟩
  · rintro ι β H ι' H' f ⟨q, na, nb⟩
    exact ⟨f.frz a od _ q, f.out q na, nb⟩
  · rintro ι β H mh i m rel ⟨q, na, nb⟩ _ hm
    obtain ⟨k, v, el, ek⟩ := at_ i m hm
    refine ⟨⟨q, by rw [← len]; exact (List.getElem?_eq_some_iff.mp hm).1⟩, fun x H' hy => ?_⟩
    obtain ⟨rfl, k', v', el', ex⟩ := hy
    rw [el] at el'
    cases el'
    subst ex
    refine ⟨.refl, rel, ?_⟩
    cases m with
    | int i => cases ek; exact rint _ _ _
    | str z => cases ek; exact rstr _ _ _
    | _ => cases ek
  · rintro ι β H mh rel ⟨q, na, nb⟩ _
    exact ⟨q, by rw [len]; exact Nat.le_refl _⟩
  · rintro ι β H D o ⟨q, na, nb⟩ hD
    exact ⟨by rw [upd_ne (ne_of_none q hD)]; exact q, na, fun z => (List.mem_cons.mp z).elim (ne_of_none q hD) nb⟩
  · rintro ι β H D o ⟨q, na, nb⟩
    exact ⟨by rw [upd_ne (fun z => nb (by rw [z]; exact List.mem_cons_self))]; exact q, na, nb⟩
/-- a dict that isn't mapped, locked -/
theorem lock_fr {ι : List Addr} {H : Hp} {a : Addr} {od : Obj} {l : List (Key × V)} (h : H a = some (.dK l)) (na : a ∉ ι) : Fr ι H ι (upd H a (.frz od (.dK l))) := by
  refine ⟨⟨[], by simp⟩, fun b u e n => ?_, fun b z n => absurd z n, fun b od' u e => ?_⟩
  · by_cases z : b = a
    · subst z
      rw [h] at e
      cases e
      exact ⟨_, upd_same, .inr ⟨l, .inl rfl, .inr ⟨od, rfl⟩⟩⟩
    · exact ⟨u, by rw [upd_ne z]; exact e, .rfl'⟩
  · by_cases z : b = a
    · subst z
      rw [h] at e
      cases e
    · rw [upd_ne z]; exact e
theorem Rel.locked {ι β : List Addr} {H : Hp} {mh : MH} {a : Addr} {od : Obj} {l : List (Key × V)} (r : Rel c ι β H mh) (h : H a = some (.dK l)) (na : a ∉ ι) (nb : a ∉ β) : Rel c ι β (upd H a (.frz od (.dK l))) mh := by
  have f := lock_fr (od := od) h na
  refine ⟨r.len, r.nd, fun b hb => ?_, fun n u e => ?_⟩
  · obtain ⟨o, e, n, nf⟩ := r.ban b hb
    exact ⟨o, by rw [upd_ne (fun z => nb (by rw [← z]; exact hb))]; exact e, n, nf⟩
  · obtain ⟨b, e1, q⟩ := r.obj n u e
    exact ⟨b, e1, q.mono f (upd_ne (fun z => na (by rw [← z]; exact List.mem_of_getElem? e1)))⟩
theorem i_dict (he : PE X e (tE c W re)) : PI X tg e (tI c W (iD re)) :=
  (pi_keys (pe_locked he)).wk fun σ H R h => by
    refine (runI (Rp := RV c) h).mono fun x H1 ⟨ι1, β, mh1, σm, v, rel, rl, rv, p⟩ => ?_
    cases v with
    | dv ks ws =>
      unfold RepV at rv
      obtain ⟨a, l, rfl, ⟨⟨o, q, iv⟩, na, nb⟩, hk, r⟩ := rv
      rcases iv with rfl | ⟨od, rfl⟩
      · refine .inr ⟨a, .dK l, q, trivial, fun od => ⟨a, od, rfl, .inl ⟨l, upd_same, ?_⟩⟩⟩
        exact p ι1 _ _ _ (lock_fr q na) (rel.locked q na nb) (src_dict hk) ⟨upd_same, na, nb⟩
      · exact .inl ⟨a, od, rfl, .inl ⟨l, q, p ι1 H1 _ _ .refl rel (src_dict hk) ⟨q, na, nb⟩⟩⟩
    | _ => exact p.elim
end
theorem hu64 {k : Nat} {A : Around} (hr : RoomG k A) : A.units + 64 < cLine := by have := hr.un; omega
theorem hu65 {k : Nat} {A : Around} (hr : RoomG k A) : A.units + 65 < cLine := by have := hr.un; omega
/-! a, b = a list -/
@[simp] def gmUnl (gs : GMs) (n : Nat) : GM := fun v σ h => match asL v h with
  | some l => if l.length = n then gs l σ h else .bad
  | none => .bad
theorem g_unl {c : C} {X : Cx} {pos : Pos} {es : List Expr} {k n : Nat} {gs : GMs} (hc : X.calm = true) (hK : X.K = c.K) (h : PGs X es (tGs c gs)) (hn : (assignEach es X.env).length = n := by rfl) (hst : (assignEach es X.env).findIdx? (·.1) = none := by rfl) : PG X (.Tuple es k pos) (tG c (gmUnl gs n)) :=
  (pg_unl hc h hn hst).wk fun v σ H Q ⟨ι, β, mh, σm, m, rel, rl, rv, p⟩ => by
    unfold gmUnl at p
    cases el : asL m mh with
    | none => rw [el] at p; exact p.elim
    | some l =>
      rw [el] at p
      dsimp only at p
      split at p
      · rename_i hl
        obtain ⟨a, vs, rfl, sq, r⟩ := asL_rep el rel rv
        exact ⟨a, vs, rfl, .inl (.inl sq), by rw [← r.length]; exact hl, ι, β, mh, σm, l, rel, rl, r, p⟩
      · exact p.elim
end MP

/-! Mirror layer: repr of plain data. -/
namespace MP
open PySem PySem.Spec PyProof.Rows L2
/-- how long a text may be at most -/
def intB (i : Int) : Nat := if i.natAbs < 1000 then 4 else if i.natAbs < 10 ^ 25 then 26 else 2000
mutual
def bnd : PyData → Nat
  | .none => 4
  | .bool _ => 5
  | .int i => intB i
  | .str x => (reprText x).length
  | .list xs => bnds xs + 2
  | .tuple xs => bnds xs + 3
  | .dict _ => 0
def bnds : List PyData → Nat
  | [] => 0
  | x :: xs => bnd x + 2 + bnds xs
end
theorem textFrom_le : ∀ (ts : List Str) (k : Nat) (acc : Str), (textFrom k acc ts).length ≤ acc.length + piled ts
  | [], k, acc => by show acc.length ≤ _; omega
  | t :: r, k, acc => by
    have ih := textFrom_le r (k + 1) (acc ++ (if k > 0 then ", " else "" : String) ++ t)
    have e : (acc ++ (if k > 0 then ", " else "" : String) ++ t).length ≤ acc.length + 2 + t.length := by
      rw [strLen_append, strLen_append]
      have : ((if k > 0 then ", " else "" : String) : Str).length ≤ 2 := by split <;> decide
      omega
    rw [piled_cons]
    show (textFrom (k + 1) _ r).length ≤ _
    omega
theorem listText_le (ts : List Str) : (listText ts).length ≤ piled ts + 2 := by
  have h := textFrom_le ts 0 "["
  have e : (listText ts).length = (textFrom 0 "[" ts).length + 1 := by
    unfold listText
    rw [strLen_append]; rfl
  have e2 : (("[" : String) : Str).length = 1 := rfl
  omega
theorem tupleText_le (ts : List Str) : (tupleText ts).length ≤ piled ts + 3 := by
  unfold tupleText
  rw [strLen_append, strLen_append]
  have e1 : (("(" : String) : Str).length = 1 := rfl
  have e2 : ((if ts.length == 1 then ",)" else ")" : String) : Str).length ≤ 2 := by split <;> decide
  cases ts with
  | nil => have : (Str.join ", " ([] : List Str)).length = 0 := rfl; omega
  | cons t r =>
    have := join_length_add (t :: r) (by simp)
    omega
theorem intB_le {i : Int} (h : i.natAbs.log2 < 1920) : (Str.ofString (toString i)).length ≤ intB i := by
  rw [PySem.ofString_length]
  unfold intB
  split
  · rename_i z
    exact int_text_length_le10 (k := 3) (by decide) z
  · split
    · rename_i z
      exact int_text_length_le10 (k := 25) (by decide) z
    · have := int_text_length_le (k := 1920) (by decide) h
      omega
mutual
theorem shown_le : ∀ {d : PyData}, d.showable = true → d.hasDict = false → d.shown.length ≤ bnd d
  | .none, _, _ => by rw [PyData.shown, bnd]; decide
  | .bool b, _, _ => by rw [PyData.shown, bnd]; cases b <;> decide
  | .int i, h, _ => by
    rw [PyData.showable] at h
    rw [PyData.shown, bnd]
    exact intB_le (of_decide_eq_true h)
  | .str x, _, _ => by rw [PyData.shown, bnd]; exact Nat.le_refl _
  | .list xs, h, n => by
    rw [PyData.showable] at h
    rw [PyData.hasDict] at n
    rw [PyData.shown, bnd]
    have := listText_le (PyData.shownAll xs)
    have := shownAll_le h n
    omega
  | .tuple xs, h, n => by
    rw [PyData.showable] at h
    rw [PyData.hasDict] at n
    rw [PyData.shown, bnd]
    have := tupleText_le (PyData.shownAll xs)
    have := shownAll_le h n
    omega
  | .dict _, _, n => by rw [PyData.hasDict] at n; cases n
theorem shownAll_le : ∀ {ds : List PyData}, PyData.showableAll ds = true → PyData.hasDictAll ds = false → piled (PyData.shownAll ds) ≤ bnds ds
  | [], _, _ => by rw [PyData.shownAll, bnds]; exact Nat.le_refl _
  | d :: ds, h, n => by
    rw [PyData.showableAll, Bool.and_eq_true] at h
    rw [PyData.hasDictAll, Bool.or_eq_false_iff] at n
    rw [PyData.shownAll, bnds, piled_cons]
    have := shown_le h.1 n.1
    have := shownAll_le h.2 n.2
    omega
end
def okR (d : PyData) : Bool := d.showable && !d.hasDict && decide (d.depth ≤ 60) && decide (bnd d ≤ 16000000)
theorem okR_iff {d : PyData} : okR d = true ↔ d.showable = true ∧ d.hasDict = false ∧ d.depth ≤ 60 ∧ bnd d ≤ 16000000 := by
  unfold okR
  simp only [Bool.and_eq_true, Bool.not_eq_true', decide_eq_true_eq]
  constructor
  · rintro ⟨⟨⟨a, b⟩, c⟩, d⟩; exact ⟨a, b, c, d⟩
  · rintro ⟨a, b, c, d⟩; exact ⟨⟨⟨a, b⟩, c⟩, d⟩
def rReprD (K : PySem.W.Frag) : List V → Hp → VK → Prop := fun vs H Q => ∃ v d, vs = [v] ∧ Dp K H v d ∧ okR d = true ∧ Q (.str d.shown) H
theorem cr_repr {X : Cx} (hg : X.A.guards = some []) (hu : X.A.units + 65 < cLine) : CallR X (.builtin "repr") (rReprD X.K) := by
  intro pins s σ H vs us Q I r h
  obtain ⟨v, d, rfl, dp, ok, q⟩ := h
  obtain ⟨o1, o2, o3, o4⟩ := okR_iff.mp ok
  have hz : d.shown.length ≤ sizeLine := Nat.le_trans (shown_le o1 o2) (by rw [sizeLine_eq]; omega)
  obtain ⟨u, rfl, rv⟩ : ∃ u, us = [u] ∧ RelV v u := by
    cases r with
    | cons a b => cases b; exact ⟨_, rfl, a⟩
  obtain ⟨as, rd⟩ := Dp.reads I _ _ _ dp rv
  have fin : ∀ (x : Str), d.shown = x → EP X pins σ Q (.str x s.toks) { s with toks := s.toks + 1 } := fun x e => ⟨.str x, H, I.tok _, ⟨_, rfl⟩, by rw [← e]; exact q⟩
  cases rd with
  | none => exact PySem.P.repr_of_none (fin _ (by rw [PyData.shown]))
  | bool b => exact PySem.P.repr_of_bool (fin _ (by rw [PyData.shown]))
  | int i t =>
    rw [PyData.showable] at o1
    exact PySem.P.repr_of_int (of_decide_eq_true o1) (fin _ (by rw [PyData.shown]))
  | str x t => exact PySem.P.repr_of_str (fin _ (by rw [PyData.shown])) (by rw [PyData.shown] at hz; exact hz)
  | list h1 h2 h3 h4 => exact repr_of_reads' (.list h1 h2 h3 h4) o1 (PyData.noDict_hsm o2) hg (by omega) (fun _ _ e => e) (fun h' u tk hk => ⟨.str _, H, I.kept (t' := tk) hk, ⟨_, rfl⟩, q⟩) hz
  | tuple h1 h2 h3 h4 => exact repr_of_reads' (.tuple h1 h2 h3 h4) o1 (PyData.noDict_hsm o2) hg (by omega) (fun _ _ e => e) (fun h' u tk hk => ⟨.str _, H, I.kept (t' := tk) hk, ⟨_, rfl⟩, q⟩) hz
  | dict h1 h2 h3 h4 h5 => rw [PyData.hasDict] at o2; cases o2
def mRepr (as : List MV) (h : MH) : R MV := match as with
  | [a] => match toD h 12 a with
    | some d => if okR d = true then .ok (.str d.shown) h else .bad
    | none => .bad
  | _ => .bad
section
variable {c : C}
theorem p_repr : PN c (rReprD c.K) mRepr := fun ι β H mh as xs Q W rel ra p => by
  unfold mRepr at p
  split at p
  · rename_i a
    split at p
    · rename_i d hd
      split at p
      · rename_i ok
        obtain ⟨v, rfl, q⟩ := Vs1 ra
        refine ⟨v, d, rfl, toD_dp rel _ _ _ _ hd q, ok, p ι H _ .refl rel ?_⟩
        unfold RepV; rfl
      · exact p.elim
    · exact p.elim
  · exact p.elim
end
/-! texts, of equal things and of unlike ones -/
def eqS (neg : Bool) (a b : MV) (h : MH) : R MV := match a, b with
  | .str x, .str y => .ok (.bl (if neg then !decide (x = y) else decide (x = y))) h
  | a, b => eqMV neg a b h
def rEqS (K : PySem.W.Frag) : R2 := fun x y H Q => (∃ a b : Str, x = .str a ∧ y = .str b ∧ Q (.bl (decide (a = b))) H) ∨ rEqD K x y H Q
def rNeS (K : PySem.W.Frag) : R2 := fun x y H Q => (∃ a b : Str, x = .str a ∧ y = .str b ∧ Q (.bl (!decide (a = b))) H) ∨ rNeD K x y H Q
end MP

/-! Mirror layer: dict comprehensions with one or two fors (no tests). -/
namespace MP
open PySem PySem.Spec PyProof.Rows L2
/-- what is put into the dict at a turn's end -/
abbrev TEm := St → Hp → (Hp → Prop) → Prop
structure PEm (X : Cx) (vs : List Nat) (code : Sem Fin → Sem Fin) (t : TEm) : Prop where
  run : ∀ (pins : List (Addr × Obj)) (s : Shared) (σ : St) (H : Hp) (Q : Hp → Prop) (k : Sem Fin) (Qk : Fin → Shared → Prop) (Ek : Value → Shared → Prop), Inv X pins σ H s → t σ H Q →
    (∀ s' σ' H', Inv X pins σ' H' s' → wipe σ' vs = wipe σ vs → Q H' → wpAny (model X.prog X.w) X.A k Qk Ek s') → wpAny (model X.prog X.w) X.A (code k) Qk Ek s
section
variable {X : Cx}
/-- one key, one value -/
theorem em_pair {kx vx : Expr} {tk tv : TE} {vs : List Nat} {D : Addr} (h0 : X.xe = fun _ _ => False) (hk : PE X kx tk) (hv : PE X vx tv) :
    PEm X vs (fun rest => do
      (do
        let kv ← eval kx X.env
        let vv ← holding [kv] (eval vx X.env)
        standAt { kx.pos with endLine := vx.pos.endLine, endCol := vx.pos.endCol }
        holding [kv, vv] (dictSet D kv vv))
      rest) (fun σ H Q => tk σ H fun y H1 => tv σ H1 fun z H2 => ∃ kvs k, y = kV k ∧ H2 D = some (.dK kvs) ∧ kvs.length < sizeLine ∧ Q (upd H2 D (.dK (putK kvs k z)))) := by
  constructor
  intro pins s σ H Q k Qk Ek I h hk'
  apply wpAny_bind
  have e0 := hk.run pins s σ H _ I h
  rw [h0] at e0
  refine wpAny_bind (wpAny_mono e0 (fun kv s1 z => ?_) fun _ _ z => z.elim)
  obtain ⟨y, H1, I1, r1, q1⟩ := z
  have e1 := hv.run pins s1 σ H1 _ I1 q1
  rw [h0] at e1
  refine wpAny_bind (wpAny_holding (wpAny_mono e1 (fun vv s2 z => ?_) fun _ _ z => z.elim))
  obtain ⟨z, H2, I2, r2, kvs, k, rfl, hD, hz, q⟩ := z
  refine wpAny_bind (wpAny_standAt (wpAny_holding ?_))
  exact d_dictSet I2 hD hz r1 r2 fun s3 I3 => hk' s3 σ _ I3 rfl q
/-- a for of a comprehension, in its block -/
theorem em_loop {kx vx : Expr} {gens : List Comprehension} {scope : Scope} {ep : Pos} {j : Nat} {acc : Value} {tg : Expr} {em : Sem Fin → Sem Fin} {vs : List Nat} {t : TEm} {g : TG} {it : Addr} {fp : List Addr} {tn : Nat → Heap → Prop} {J : It} {pins : List (Addr × Obj)} {σ : St} {H : Hp} {s : Shared} {R : Result → Shared → Prop} {p : Pos}
    (hc : X.calm = true) (hturn : compTurn (.DictComp kx vx gens scope ep) j (.ref it) acc X.env = (do
      standAt p
      match ← pyNext (.ref it) with
      | none => pure (.done .next)
      | some v =>
        letOwnedTupleGo tg (.ref it) v
        assign tg X.env v
        em (again (.compLoop (.DictComp kx vx gens scope ep) j (.ref it) acc X.env))))
    (hg : PG X tg g) (hem : PEm X vs em t) (T : Turn X.prog X.w X.K tg J fp it tn) (h0 : X.xe = fun _ _ => False)
    (I : Inv X pins (wipe σ vs) H s) (st : tn 0 s.heap) (f : ∀ b ∈ fp, FpOk X pins H b) (Q : Hp → Prop) (W : Nat → Nat → Hp → Prop) (w0 : ∃ m, W 0 m H)
    (turn : ∀ i m H, W i m H → (J.stop i H ∧ Q H) ∨ (J.go i H ∧ ∃ Nx : Hp → Prop, (∀ H', Nx H' → ∃ m', m' < m ∧ W (i + 1) m' H') ∧ ∀ x H', J.yld i H x H' → g x (wipe σ vs) H' fun σ2 H2 => wipe σ2 vs = wipe σ vs ∧ t σ2 H2 Nx))
    (fin : ∀ s' H', Inv X pins (wipe σ vs) H' s' → Q H' → R (.ok .next) s') :
    codeAny (model X.prog X.w) X.A (.compLoop (.DictComp kx vx gens scope ep) j (.ref it) acc X.env) R s := by
  obtain ⟨m0, w0⟩ := w0
  have stat : ∀ {H' : Hp}, (∀ b ∈ fp, H' b = none) → ∀ b ∈ fp, FpOk X pins H' b := fun hn b hb => ⟨hn b hb, (f b hb).2⟩
  refine codeAny_loop rfl (fun n s' => ∃ i H', Inv X pins (wipe σ vs) H' s' ∧ tn i s'.heap ∧ (∀ b ∈ fp, H' b = none) ∧ W i n H') (fun n s3 hI => ?_) m0 ⟨0, H, I, st, fun b hb => (f b hb).1, w0⟩
  obtain ⟨i, H3, I3, st3, fr3, w3⟩ := hI
  show wpAny _ X.A ((compTurn (.DictComp kx vx gens scope ep) j (.ref it) acc X.env).onRaise (fun x => do noteFrame x X.env; theTreesLotGoes x)) _ _ s3
  refine wpAny_noted ?_
  rw [hturn]
  refine wpAny_bind (wpAny_standAt (wpAny_bind ?_))
  rcases turn i n H3 w3 with ⟨stop, qq⟩ | ⟨go, Nx, hN, step⟩
  · refine thnF (T.done X rfl rfl rfl hc i pins s3 _ H3 (fun _ _ => False) I3 (stat fr3) st3 stop) fun r s4 ⟨hr, I4⟩ => ?_
    subst hr
    exact wpAny_pure (fin s4 H3 I4 qq)
  · refine thnF (T.item X rfl rfl rfl hc i pins s3 _ H3 (fun _ _ => False) I3 (stat fr3) st3 go) fun r s4 ⟨u, hr, h4⟩ => ?_
    subst hr
    refine wpAny_bind (thnF h4 fun _ s5 ⟨x, H5, I5, r5, y5, st5, fr5⟩ => ?_)
    have I5' := I5.pinned (stat fr5) (T.obj _ _ st5)
    have pg := hg.run _ s5 _ H5 x u _ I5' r5 (step x H5 y5)
    rw [h0] at pg
    refine wpAny_bind (thnF pg fun _ s6 ⟨σ6, H6, I6, w6, q6⟩ => ?_)
    refine hem.run _ s6 σ6 H6 _ _ _ _ I6 q6 fun s7 σ7 H7 I7 w7 n7 => ?_
    obtain ⟨m', hm, w8⟩ := hN H7 n7
    have pin' : ∀ b ∈ fp, ∀ o, s5.heap.get? b = some o → s7.heap.get? b = some o ∧ H7 b = none := fun b hb o e =>
      let z := I7.pin (b, o) (List.mem_append_right _ (List.mem_append_right _ (mem_pinsAt hb e)))
      ⟨z.1, z.2.1⟩
    have eW : wipe σ7 vs = wipe σ vs := w7.trans w6
    have hl : (wipe σ vs).length = σ7.length := by rw [← eW, wipe_length]
    refine wpAny_pure ⟨rfl, m', hm, i + 1, H7, I7.unpinned.weak hl (fun j v e => ?_), T.keep _ _ _ st5 fun b hb o e => (pin' b hb o e).1, fun b hb => ?_, w8⟩
    · rw [← eW] at e
      exact (wipe_some e).1
    · obtain ⟨o, e, _⟩ := T.obj _ _ st5 b hb
      exact (pin' b hb o e).2
/-- the inner for's start -/
theorem start1 {prog : Program} {w : World} {A : Around} {R : Result → Shared → Prop} {s : Shared} {kx vx tg iter tg2 iter2 : Expr} {ifs ifs2 : List Expr} {scope : Scope} {pos : Pos} {it acc : Value} {env : Env}
    (h0 : codeAny (model prog w) A (.compLoop (.DictComp kx vx [⟨tg, iter, ifs, 0⟩, ⟨tg2, iter2, ifs2, 0⟩] scope pos) 1 it acc env) R s)
    (h : wpAny (model prog w) A (pyIter it) (fun it' s' => codeAny (model prog w) A (.compLoop (.DictComp kx vx [⟨tg, iter, ifs, 0⟩, ⟨tg2, iter2, ifs2, 0⟩] scope pos) 1 it' acc env) R s') (fun _ _ => False) s) :
    codeAny (model prog w) A (.compStart (.DictComp kx vx [⟨tg, iter, ifs, 0⟩, ⟨tg2, iter2, ifs2, 0⟩] scope pos) 1 it acc env) R s := by
  apply codeAny_of_tree
  show wpAny _ A ((compStart (.DictComp kx vx [⟨tg, iter, ifs, 0⟩, ⟨tg2, iter2, ifs2, 0⟩] scope pos) 1 it acc env).onRaise (fun x => do noteFrame x env; standAt theWindowsPlace)) _ _ s
  apply wpAny_notedAt
  unfold compStart
  show wpAny _ A (ask >>= _) _ _ s
  apply wpAny_bind
  apply wpAny_askSetting
  apply wpAny_ite
  split
  · first
      | exact wpAny_pure (And.intro rfl h0)
      | exact wpAny_bind (wpAny_pure (wpAny_pure (And.intro rfl h0)))
  · apply wpAny_bind
    apply wpAny_rule
    show wpAny _ A (standAt iter2.pos >>= _) _ _ s
    apply wpAny_bind
    apply wpAny_standAt
    apply wpAny_bind
    exact wpAny_mono h (fun it' s' z => wpAny_pure (And.intro rfl z)) fun _ _ z => z.elim
theorem turn0 (kx vx tg iter tg2 iter2 : Expr) (scope : Scope) (pos : Pos) (it : Value) (D : Addr) (env : Env) :
    compTurn (.DictComp kx vx [⟨tg, iter, [], 0⟩, ⟨tg2, iter2, [], 0⟩] scope pos) 0 it (.ref D) env = (do
      standAt iter.pos
      match ← pyNext it with
      | none => pure (.done .next)
      | some v =>
        letOwnedTupleGo tg it v
        assign tg env v
        let x ← eval iter2 env
        standAt iter2.pos
        let x ← foldedSetIterable iter2 env x
        let _ ← runOwn (.compStart (.DictComp kx vx [⟨tg, iter, [], 0⟩, ⟨tg2, iter2, [], 0⟩] scope pos) 1 (← holding [x] (pyIter x)) (.ref D) env) env
        again (.compLoop (.DictComp kx vx [⟨tg, iter, [], 0⟩, ⟨tg2, iter2, [], 0⟩] scope pos) 0 it (.ref D) env)) := by rfl
theorem turn1 (kx vx tg iter tg2 iter2 : Expr) (scope : Scope) (pos : Pos) (it : Value) (D : Addr) (env : Env) :
    compTurn (.DictComp kx vx [⟨tg, iter, [], 0⟩, ⟨tg2, iter2, [], 0⟩] scope pos) 1 it (.ref D) env = (do
      standAt iter2.pos
      match ← pyNext it with
      | none => pure (.done .next)
      | some v =>
        letOwnedTupleGo tg2 it v
        assign tg2 env v
        (do
          let kv ← eval kx env
          let vv ← holding [kv] (eval vx env)
          standAt { kx.pos with endLine := vx.pos.endLine, endCol := vx.pos.endCol }
          holding [kv, vv] (dictSet D kv vv))
        again (.compLoop (.DictComp kx vx [⟨tg, iter, [], 0⟩, ⟨tg2, iter2, [], 0⟩] scope pos) 1 it (.ref D) env)) := by rfl
/-- the inner for, as what a turn of the outer one puts in -/
def tEm2 (wi2 : TI) (g2 : TG) (tk tv : TE) (vs2 : List Nat) (D : Addr) : TEm := fun σ H Q => wi2 σ H fun J H1 => ∃ W : Nat → Nat → Hp → Prop, (∃ m, W 0 m H1) ∧ ∀ i m H, W i m H → (J.stop i H ∧ Q H) ∨
  (J.go i H ∧ ∃ Nx : Hp → Prop, (∀ H', Nx H' → ∃ m', m' < m ∧ W (i + 1) m' H') ∧ ∀ x H', J.yld i H x H' → g2 x (wipe σ vs2) H' fun σ2 H2 => wipe σ2 vs2 = wipe σ vs2 ∧
    tk σ2 H2 fun y H3 => tv σ2 H3 fun z H4 => ∃ kvs k, y = kV k ∧ H4 D = some (.dK kvs) ∧ kvs.length < sizeLine ∧ Nx (upd H4 D (.dK (putK kvs k z))))
theorem em_inner {kx vx tg iter tg2 iter2 : Expr} {scope : Scope} {pos : Pos} {wi2 : TI} {g2 : TG} {tk tv : TE} {vs vs2 : List Nat} {D : Addr} (hc : X.calm = true) (h0 : X.xe = fun _ _ => False) (hi : PI X tg2 iter2 wi2) (hg : PG X tg2 g2) (hk : PE X kx tk) (hv : PE X vx tv)
    (hs : ∀ x, foldedSetIterable iter2 X.env x = pure x) (sub : ∀ σ : St, wipe (wipe σ vs2) vs = wipe σ vs) :
    PEm X vs (fun rest => do
      let x ← eval iter2 X.env
      standAt iter2.pos
      let x ← foldedSetIterable iter2 X.env x
      let _ ← runOwn (.compStart (.DictComp kx vx [⟨tg, iter, [], 0⟩, ⟨tg2, iter2, [], 0⟩] scope pos) 1 (← holding [x] (pyIter x)) (.ref D) X.env) X.env
      rest) (tEm2 wi2 g2 tk tv vs2 D) := by
  constructor
  intro pins s σ H Q k Qk Ek I h hk'
  have e0 := hi.run pins s σ H _ I h
  rw [h0] at e0
  refine wpAny_bind (wpAny_mono e0 (fun u s1 z => ?_) fun _ _ z => z.elim)
  refine wpAny_bind (wpAny_standAt ?_)
  rw [hs u]
  refine wpAny_bind (wpAny_pure (wpAny_bind (wpAny_holding (wpAny_mono z (fun itv s2 z2 => ?_) fun _ _ z => z.elim))))
  obtain ⟨it, fp, tn, J, H2, rfl, I2, T, st2, f2, W, w0, turn⟩ := z2
  have I2' : Inv X pins (wipe σ vs2) H2 s2 := I2.weak (wipe_length _ _) fun j v e => (wipe_some e).1
  refine wpAny_bind (wpAny_runOwn ?_)
  have loop : codeAny (model X.prog X.w) X.A (.compLoop (.DictComp kx vx [⟨tg, iter, [], 0⟩, ⟨tg2, iter2, [], 0⟩] scope pos) 1 (.ref it) (.ref D) X.env) (fun r s' => match r with
      | .ok f => wpAny (model X.prog X.w) X.A k Qk Ek s'
      | .error e => cameBackBy (model X.prog X.w) X.A X.env Ek e s') s2 :=
    em_loop hc (turn1 kx vx tg iter tg2 iter2 scope pos (.ref it) D X.env) hg (em_pair h0 hk hv) T h0 I2' st2 f2 Q W w0 turn fun s' H' I' q => hk' s' _ H' I' (sub σ) q
  exact start1 loop (T.self X.A 0 _ _ _ st2 loop)
/-- what {k: v for tg in iter for tg2 in iter2} asks -/
def tDc2 (wi : TI) (g : TG) (wi2 : TI) (g2 : TG) (tk tv : TE) (vs vs2 : List Nat) : TE := fun σ H Q => wi σ H fun J H1 => ∀ D, H1 D = none → ∃ W : Nat → Nat → Hp → Prop, (∃ m, W 0 m (upd H1 D (.dK []))) ∧ ∀ i m H, W i m H →
  (J.stop i H ∧ Q (.ref D) H) ∨ (J.go i H ∧ ∃ Nx : Hp → Prop, (∀ H', Nx H' → ∃ m', m' < m ∧ W (i + 1) m' H') ∧ ∀ x H', J.yld i H x H' → g x (wipe σ vs) H' fun σ2 H2 => wipe σ2 vs = wipe σ vs ∧ tEm2 wi2 g2 tk tv vs2 D σ2 H2 Nx)
theorem pe_dc2 {kx vx tg iter tg2 iter2 : Expr} {scope : Scope} {own : List (Str × Nat)} {pos : Pos} {wi wi2 : TI} {g g2 : TG} {tk tv : TE} {vs2 : List Nat} (calm : X.calm = true) (nd : X.N.Nodup) (walk : PI X tg iter wi) (blk : BlkOk X.N X.env.scope scope own)
    (dg : ∀ (s : Shared) (H : Hp) (C : Addr) (cl : List (Str × Addr)) (fp : List Addr), PG (X.blk s H scope (compEnvC scope cl C X.env) fp) tg g)
    (di2 : ∀ (s : Shared) (H : Hp) (C : Addr) (cl : List (Str × Addr)) (fp : List Addr), PI (X.blk s H scope (compEnvC scope cl C X.env) fp) tg2 iter2 wi2)
    (dg2 : ∀ (s : Shared) (H : Hp) (C : Addr) (cl : List (Str × Addr)) (fp : List Addr), PG (X.blk s H scope (compEnvC scope cl C X.env) fp) tg2 g2)
    (dk : ∀ (s : Shared) (H : Hp) (C : Addr) (cl : List (Str × Addr)) (fp : List Addr), PE (X.blk s H scope (compEnvC scope cl C X.env) fp) kx tk)
    (dv : ∀ (s : Shared) (H : Hp) (C : Addr) (cl : List (Str × Addr)) (fp : List Addr), PE (X.blk s H scope (compEnvC scope cl C X.env) fp) vx tv)
    (sub : ∀ σ : St, wipe (wipe σ vs2) (own.map (·.2)) = wipe σ (own.map (·.2))) (fold : ∀ x, foldedSetIterable iter X.env x = pure x := by intro _; rfl) (fold2 : ∀ env x, foldedSetIterable iter2 env x = pure x := by intro _ _; rfl) :
    PE X (.DictComp kx vx [⟨tg, iter, [], 0⟩, ⟨tg2, iter2, [], 0⟩] scope pos) (tDc2 wi g wi2 g2 tk tv (own.map (·.2)) vs2) := by
  refine ⟨fun pins s σ H Q I ask => ?_⟩
  rw [arm_eval_DictComp]
  have cellsThere : ∀ y ∈ scope.names, y.2 = .free → ∃ c, X.env.cells.lookup y.1 = some c := fun y hy e => (blk.free y hy e).elim (fun k => I.ok.has _ (.inl k)) fun k => I.ok.has _ (.inr k)
  refine wpAny_comprehension_free (use := none) rfl fold (closure_ok cellsThere) blk.kind (fun y hy e => by rw [blk.uniq y hy, e]) ?_
  refine thn (walk.run pins s σ H _ I ask) fun xv sA hA => thn hA fun itv sB ⟨it, fp, tn, J, HB, eIt, IB, T, tn0, fpB, q⟩ => ?_
  subst eIt
  refine wpAny_newObj_type (newEnv_comp ?_)
  generalize eD : sB.heap.objs.size = D
  have freshD : HB D = none := IB.hok.fresh (Nat.le_of_eq eD)
  obtain ⟨W, start, turn⟩ := q D freshD
  generalize eS : ({ sB with heap := sB.heap.push { cls := .type "dict", data := .dict #[] } } : Shared) = sC
  have heapC : sC.heap = sB.heap.push { cls := .type "dict", data := .dict #[] } := by rw [← eS]
  generalize eH : upd HB D (.dK []) = HC at start
  have IC : Inv X pins σ HC sC := by
    rw [← eS, ← eH]
    refine IB.laid (t' := sB.toks) (fun b o e => Heap.get?_push_of_some _ e) (Nat.le_of_eq eD) ?_
    rw [← eD]
    exact dk_empty sB.heap IB.big
  have inB : ∀ b ∈ fp, b < sB.heap.objs.size := fun b hb => let ⟨o, e, _⟩ := T.obj _ _ tn0 b hb; Heap.lt_size e
  have fpC : ∀ b ∈ fp, FpOk X pins HC b ∧ b < sC.heap.objs.size := fun b hb =>
    ⟨⟨by rw [← eH, upd_ne (by rw [← eD]; exact Nat.ne_of_lt (inB b hb))]; exact (fpB b hb).1, (fpB b hb).2⟩, by rw [heapC, Heap.size_push]; exact Nat.lt_succ_of_lt (inB b hb)⟩
  have tnC : tn 0 sC.heap := T.keep _ _ _ tn0 fun b _ o e => by rw [heapC]; exact Heap.get?_push_of_some _ e
  have noneC : ∀ b ∈ fp, HC b = none := fun b hb => (fpC b hb).1.1
  have IK := block_start IC blk nd fpC
  generalize eCl : cellsFrom (sC.heap.objs.size + 1) scope.names (cloFrom X.env.cells scope.names []) = cl at IK
  have hg := dg sC HC sC.heap.objs.size cl fp
  have hi2 := di2 sC HC sC.heap.objs.size cl fp
  have hg2 := dg2 sC HC sC.heap.objs.size cl fp
  have hk := dk sC HC sC.heap.objs.size cl fp
  have hv := dv sC HC sC.heap.objs.size cl fp
  generalize eEnv : compEnvC scope cl sC.heap.objs.size X.env = ce at IK hg hi2 hg2 hk hv
  have ceLoc : ce.locals = sC.heap.objs.size := by rw [← eEnv]; rfl
  generalize eK : ({ sC with heap := pushCells (sC.heap.push { cls := .type "dict", data := .dict #[] }) scope.names } : Shared) = sK at IK
  have tnK : tn 0 sK.heap := T.keep _ _ _ tnC fun b _ o e => by rw [← eK]; exact pushCells_keeps _ _ _ _ (Heap.get?_push_of_some _ e)
  have apart : ∀ b ∈ fp, FpOk (X.blk sC HC scope ce fp) [] HC b := fun b hb =>
    ⟨noneC b hb, (IK.ok.exf b hb).1, IK.ok.exfs b hb, .inl hb, fun x c e => (IK.ok.exf b hb).2 x c e, fun p hp => absurd (show p ∈ ([] : List (Addr × Obj)) ++ [] from hp) (by simp)⟩
  have turns : codeAny (model X.prog X.w) X.A (.compLoop (.DictComp kx vx [⟨tg, iter, [], 0⟩, ⟨tg2, iter2, [], 0⟩] scope pos) 0 (.ref it) (.ref D) ce) (compPost (model X.prog X.w) X.A X.xe none (EP X pins σ Q) (.ref D) sC.heap.objs.size) sK := by
    have inner := em_inner (X := X.blk sC HC scope ce fp) (tg := tg) (iter := iter) (scope := scope) (pos := pos) (vs := own.map (·.2)) (vs2 := vs2) (D := D) calm rfl hi2 hg2 hk hv (fold2 _) sub
    refine em_loop (X := X.blk sC HC scope ce fp) calm (turn0 kx vx tg iter tg2 iter2 scope pos (.ref it) D ce) hg inner T rfl IK tnK apart (fun H' => Q (.ref D) H') W start turn fun s6 H5 I6 fin => ?_
    have I7 : Inv X pins σ H5 s6 := IC.call' (ch := fp) I6.os I6.base I6.hok I6.bare fun b hb => ⟨(fpC b hb).1.2.2.2.1, (fpC b hb).1.2.1, (fpC b hb).1.2.2.2.2.1, (fpC b hb).1.2.2.2.2.2⟩
    have roomC : H5 sC.heap.objs.size = none := by rw [← ceLoc]; exact I6.free
    obtain ⟨m, hn, _⟩ := I6.loc
    have hn : s6.heap.Ns ce.locals m := hn
    rw [ceLoc] at hn
    obtain ⟨f0, f1, _, f3, f4, f5⟩ := IC.fpOk (Nat.le_refl _) roomC
    exact ⟨m, hn, fun h'' sb => ⟨.ref D, H5, I7.turned (t' := s6.toks) (fun b o hb e => (sb.2 b hb).trans e) f0 f1 f3 f4 f5, rfl, fin⟩⟩
  show codeAny _ _ (.compStart (.DictComp kx vx [⟨tg, iter, [], 0⟩, ⟨tg2, iter2, [], 0⟩] scope pos) 0 (.ref it) (.ref D) (compEnvC scope cl sC.heap.objs.size X.env)) (compPost (model X.prog X.w) X.A X.xe none (EP X pins σ Q) (.ref D) sC.heap.objs.size) sK
  rw [eEnv]
  exact codeAny_compStart_dict turns (T.self X.A 0 _ _ _ tnK turns)
end
end MP

/-! Mirror layer: dict comprehensions with two fors, as mirror terms. -/
namespace MP
open PySem PySem.Spec PyProof.Rows L2
def putAll (acc l : List (MV × MV)) : List (MV × MV) := l.foldl (fun a p => putKV a p.1 p.2) acc
@[simp] theorem putAll_nil (acc : List (MV × MV)) : putAll acc [] = acc := rfl
theorem putAll_cons (acc : List (MV × MV)) (k v : MV) (l : List (MV × MV)) : putAll acc ((k, v) :: l) = putAll (putKV acc k v) l := rfl
theorem putKV_len (k v : MV) : ∀ l : List (MV × MV), (putKV l k v).length ≤ l.length + 1
  | [] => by simp [putKV]
  | (a, b) :: l => by
    unfold putKV
    split
    · simp
    · have := putKV_len k v l
      simp only [List.length_cons]; omega
theorem look_put (k v y : MV) : ∀ l : List (MV × MV), (∀ a b : MV, beqV a b = true → a = b) → lookKV (putKV l k v) y = if beqV k y = true then some v else lookKV l y
  | [], _ => by unfold putKV; simp [lookKV]
  | (a, b) :: l, he => by
    have ih := look_put k v y l he
    unfold putKV
    by_cases z : beqV a k = true
    · rw [if_pos z]
      have := he a k z
      subst this
      by_cases z2 : beqV a y = true <;> simp [lookKV, z2]
    · rw [if_neg z]
      by_cases z2 : beqV a y = true
      · have e := he a y z2
        subst e
        have z3 : ¬ beqV k a = true := fun q => z (by rw [he k a q, beqV_self])
        simp [lookKV, z3]
      · simp [lookKV, z2, ih]
theorem nod_put (k v : MV) : ∀ l : List (MV × MV), nodK l = true → nodK (putKV l k v) = true
  | [], _ => rfl
  | (a, b) :: l, h => by
    unfold nodK at h
    rw [Bool.and_eq_true] at h
    unfold putKV
    by_cases z : beqV a k = true
    · rw [if_pos z]
      have := beqV_eq z
      subst this
      unfold nodK
      rw [h.1, h.2]; rfl
    · rw [if_neg z]
      unfold nodK
      rw [nod_put k v l h.2, look_put k v a l fun a b => beqV_eq]
      have z3 : ¬ beqV k a = true := fun q => z (by rw [beqV_eq q, beqV_self])
      rw [if_neg z3, h.1]; rfl
def keysOk (l : List (MV × MV)) : Bool := l.all fun p => (mkey p.1).isSome
def dcIn (chk : MH → Bool) (p : TP) (ek ev : EM) : List MV → Lo → MH → R (List (MV × MV))
  | [], _, h => if chk h = true then .ok [] h else .bad
  | x :: xs, σ, h => if chk h = true then match asP p x σ with
      | none => .bad
      | some σ1 => match ek σ1 h with
        | .ok k h1 => match ev σ1 h1 with
          | .ok v h2 => match dcIn chk p ek ev xs σ h2 with
            | .ok r h3 => .ok ((k, v) :: r) h3
            | _ => .bad
          | _ => .bad
        | _ => .bad
    else .bad
def dcOut (chk : MH → Bool) (p : TP) (r2 : IM) (p2 : TP) (vs2 : List Nat) (ek ev : EM) : List MV → Lo → MH → R (List (MV × MV))
  | [], _, h => if chk h = true then .ok [] h else .bad
  | x :: xs, σ, h => if chk h = true then match asP p x σ with
      | none => .bad
      | some σ1 => match r2 σ1 h with
        | .ok lc h1 => match dcIn lc.2 p2 ek ev lc.1 (clrL vs2 σ1) h1 with
          | .ok l h2 => match dcOut chk p r2 p2 vs2 ek ev xs σ h2 with
            | .ok r h3 => .ok (l ++ r) h3
            | _ => .bad
          | _ => .bad
        | _ => .bad
    else .bad
def PostD (c : C) (ι1 β : List Addr) (H1 : Hp) (D : Addr) (acc : List (MV × MV)) (Q : Hp → Prop) : R (List (MV × MV)) → Prop
  | .ok r h' => keysOk r = true ∧ acc.length + r.length ≤ SZ ∧ ∀ ι' H' kvs, Fr ι1 H1 ι' H' → Rel c ι' (D :: β) H' h' → H' D = some (.dK kvs) → RepKV c.K ι' (D :: β) H' (putAll acc r) kvs → nodK (putAll acc r) = true → Q H'
  | _ => False
/-- one pair put, the others to come -/
theorem PostD.step {c : C} {ι1 β : List Addr} {H1 : Hp} {D : Addr} {acc : List (MV × MV)} {Q : Hp → Prop} {k v : MV} {r : List (MV × MV)} {h : MH} (p : PostD c ι1 β H1 D acc Q (.ok ((k, v) :: r) h)) : (mkey k).isSome = true ∧ acc.length < SZ ∧ PostD c ι1 β H1 D (putKV acc k v) Q (.ok r h) := by
  obtain ⟨a, b, q⟩ := p
  unfold keysOk at a
  rw [List.all_cons, Bool.and_eq_true] at a
  rw [List.length_cons] at b
  have := putKV_len k v acc
  exact ⟨a.1, by omega, a.2, by omega, q⟩
theorem vw_dK {l : List (Key × V)} {o : HO} (h : Vw (.dK l) o) : IsDV o l := h.dv (.inl rfl)
/-- the dict being built stays what it is while other things are done -/
theorem keep_D {c : C} {ι β ι' : List Addr} {H H' : Hp} {D : Addr} {kvs : List (Key × V)} {mh mh' : MH} (rel : Rel c ι (D :: β) H mh) (hD : H D = some (.dK kvs)) (f : Fr ι H ι' H') (rel' : Rel c ι' (D :: β) H' mh') : H' D = some (.dK kvs) := by
  obtain ⟨_, _, nD, _⟩ := rel.ban D List.mem_cons_self
  obtain ⟨o2, e2, _, nf⟩ := rel'.ban D List.mem_cons_self
  obtain ⟨o1, e1, w1⟩ := f.keep D _ hD nD
  rcases vw_dK w1 with rfl | ⟨od, rfl⟩
  · exact e1
  · rw [e2] at e1
    injection e1 with e1
    exact absurd e1 (nf _ _)
section
variable {c : C} {J : It} {items : List MV} {chk : MH → Bool} {inv : List Addr → List Addr → Hp → Prop} {ι1 β : List Addr} {H1 : Hp} {D : Addr} {Q : Hp → Prop} {p p2 : TP} {ek ev : EM} {r2 : IM} {g g2 : TG} {vs vs2 : List Nat}
/-- where things stand between two puts -/
structure DAt (c : C) (ι1 β : List Addr) (H1 : Hp) (D : Addr) (σm : Lo) (σ : St) (ι : List Addr) (H : Hp) (mh : MH) (acc : List (MV × MV)) (kvs : List (Key × V)) : Prop where
  rel : Rel c ι (D :: β) H mh
  rl : RepL c.K ι (D :: β) H σm σ
  fr : Fr ι1 H1 ι H
  at_ : H D = some (.dK kvs)
  rep : RepKV c.K ι (D :: β) H acc kvs
  nd : nodK acc = true
theorem DAt.go {σm : Lo} {σ : St} {ι ι' : List Addr} {H H' : Hp} {mh mh' : MH} {acc : List (MV × MV)} {kvs : List (Key × V)} (d : DAt c ι1 β H1 D σm σ ι H mh acc kvs) (f : Fr ι H ι' H') (rel' : Rel c ι' (D :: β) H' mh') : DAt c ι1 β H1 D σm σ ι' H' mh' acc kvs :=
  ⟨rel', d.rl.mono f, d.fr.trans f, keep_D d.rel d.at_ f rel', d.rep.move f.mov, d.nd⟩
theorem DAt.other {σm σm' : Lo} {σ σ' : St} {ι : List Addr} {H : Hp} {mh : MH} {acc : List (MV × MV)} {kvs : List (Key × V)} (d : DAt c ι1 β H1 D σm σ ι H mh acc kvs) (rl : RepL c.K ι (D :: β) H σm' σ') : DAt c ι1 β H1 D σm' σ' ι H mh acc kvs := ⟨d.rel, rl, d.fr, d.at_, d.rep, d.nd⟩
/-- the put -/
theorem DAt.put {σm : Lo} {σ : St} {ι : List Addr} {H : Hp} {mh : MH} {acc : List (MV × MV)} {kvs : List (Key × V)} {k v : MV} {kk : Key} {x : V} (d : DAt c ι1 β H1 D σm σ ι H mh acc kvs) (hn : H1 D = none) (ek : mkey k = some kk) (rv : RepV c.K ι (D :: β) H v x) :
    DAt c ι1 β H1 D σm σ ι (upd H D (.dK (putK kvs kk x))) mh (putKV acc k v) (putK kvs kk x) :=
  ⟨d.rel.turn (fun _ _ z => nomatch z), d.rl.move Mov.turn, d.fr.updN hn, upd_same, (put_rep ek rv d.rep d.nd).move Mov.turn, nod_put k v acc d.nd⟩
theorem in_of {items2 : List MV} {chk2 : MH → Bool} {inv2 : List Addr → List Addr → Hp → Prop} {J2 : It} {σm : Lo} {σ : St} {ι : List Addr} {H : Hp} {mh : MH} {acc : List (MV × MV)} {kvs : List (Key × V)} {rest : List (MV × MV) → MH → R (List (MV × MV))}
    (S2 : Src c J2 items2 chk2 inv2) (rd2 : RdOk c vs2 g2 p2) (hn : H1 D = none) (d : DAt c ι1 β H1 D σm σ ι H mh acc kvs) (hi : inv ι (D :: β) H) (hi2 : inv2 ι (D :: β) H)
    (mono : ∀ ι β H ι' H', Fr ι H ι' H' → inv ι β H → inv ι' β H') (trn : ∀ ι β H D o, inv ι (D :: β) H → inv ι (D :: β) (upd H D o))
    (q : ∀ {r h}, dcIn chk2 p2 ek ev items2 (clrL vs2 σm) mh = .ok r h → PostD c ι1 β H1 D acc Q (rest r h)) (q0 : ∃ r h, dcIn chk2 p2 ek ev items2 (clrL vs2 σm) mh = .ok r h)
    (app : ∀ k v r h, rest ((k, v) :: r) h = match rest r h with | .ok r' h' => .ok ((k, v) :: r') h' | x => x)
    (Nx : Hp → Prop) (last : ∀ ι H mh acc kvs, DAt c ι1 β H1 D (clrL vs2 σm) (wipe σ vs2) ι H mh acc kvs → inv ι (D :: β) H → PostD c ι1 β H1 D acc Q (rest [] mh) → Nx H) :
    ∃ W : Nat → Nat → Hp → Prop, (∃ m, W 0 m H) ∧ ∀ i m H, W i m H → (J2.stop i H ∧ Nx H) ∨
      (J2.go i H ∧ ∃ N2 : Hp → Prop, (∀ H', N2 H' → ∃ m', m' < m ∧ W (i + 1) m' H') ∧ ∀ x H', J2.yld i H x H' → g2 x (wipe σ vs2) H' fun σ2 H2 => wipe σ2 vs2 = wipe σ vs2 ∧
        tE c W0 ek σ2 H2 fun y H3 => tE c W0 ev σ2 H3 fun z H4 => ∃ kvs k, y = kV k ∧ H4 D = some (.dK kvs) ∧ kvs.length < sizeLine ∧ N2 (upd H4 D (.dK (putK kvs k z)))) := by
  let St' : Nat → Hp → Prop := fun i H => ∃ ι mh acc kvs r h, DAt c ι1 β H1 D (clrL vs2 σm) (wipe σ vs2) ι H mh acc kvs ∧ inv ι (D :: β) H ∧ inv2 ι (D :: β) H ∧ dcIn chk2 p2 ek ev (items2.drop i) (clrL vs2 σm) mh = .ok r h ∧ PostD c ι1 β H1 D acc Q (rest r h)
  obtain ⟨r0, h0, e0⟩ := q0
  refine ⟨fun i m H => m = items2.length - i ∧ i ≤ items2.length ∧ St' i H, ⟨items2.length, by simp, Nat.zero_le _, ι, mh, acc, kvs, r0, h0, d.other (d.rl.clear vs2), hi, hi2, by simpa using e0, q e0⟩, ?_⟩
  rintro i m H ⟨rfl, hle, ι, mh, acc, kvs, r, h, d, hi, hi2, e, q⟩
  by_cases hlt : i < items2.length
  · rw [List.drop_eq_getElem_cons hlt] at e
    unfold dcIn at e
    split at e
    · rename_i hc
      obtain ⟨go, yl⟩ := S2.go ι (D :: β) H mh i items2[i] d.rel hi2 hc (List.getElem?_eq_getElem hlt)
      refine .inr ⟨go, St' (i + 1), fun H' hN => ⟨items2.length - (i + 1), by omega, rfl, hlt, hN⟩, fun x H' hy => ?_⟩
      obtain ⟨f1, rel1, rx⟩ := yl x H' hy
      cases ea : asP p2 items2[i] (clrL vs2 σm) with
      | none => simp only [ea] at e; cases e
      | some σ1 =>
        simp only [ea] at e
        have d1 := d.go f1 rel1
        refine rd2 ι (D :: β) H' mh items2[i] x _ _ σ1 _ rel1 d1.rl rx ea fun σ' rl' hw => ⟨hw.trans (wipe_wipe σ vs2), ?_⟩
        refine ⟨ι, D :: β, mh, σ1, rel1, rl', ?_⟩
        cases eK : ek σ1 mh with
        | ok k h1 =>
          simp only [eK] at e
          intro ι2 H2 y f2 rel2 ry
          refine ⟨ι2, D :: β, h1, σ1, rel2, rl'.mono f2, ?_⟩
          cases eV : ev σ1 h1 with
          | ok v h2 =>
            simp only [eV] at e
            intro ι3 H3 z f3 rel3 rz
            cases eR : dcIn chk2 p2 ek ev (items2.drop (i + 1)) (clrL vs2 σm) h2 with
            | ok r' h3 =>
              simp only [eR] at e
              injection e with e1 e2
              subst e1 e2
              rw [app] at q
              cases eRest : rest r' h3 with
              | ok r'' h4 =>
                simp only [eRest] at q
                obtain ⟨hk, hl, q⟩ := PostD.step q
                have f23 := f2.trans f3
                have d3 := d1.go f23 rel3
                obtain ⟨kk, ekk⟩ := Option.isSome_iff_exists.mp hk
                have yk := mkey_rep ekk ry
                refine ⟨kvs, kk, yk, d3.at_, by rw [← d3.rep.length, sz_eq]; exact hl, ?_⟩
                refine ⟨ι3, h2, putKV acc k v, putK kvs kk z, r', h3, d3.put hn ekk rz, trn _ _ _ _ _ (mono _ _ _ _ _ (f1.trans f23) hi), S2.turn _ _ _ _ _ (S2.mono _ _ _ _ _ (f1.trans f23) hi2), eR, by rw [eRest]; exact q⟩
              | ex a b => simp only [eRest] at q; exact q.elim
              | bad => simp only [eRest] at q; exact q.elim
            | ex a b => simp only [eR] at e; cases e
            | bad => simp only [eR] at e; cases e
          | ex a b => simp only [eV] at e; cases e
          | bad => simp only [eV] at e; cases e
        | ex a b => simp only [eK] at e; cases e
        | bad => simp only [eK] at e; cases e
    · cases e
  · have ei : i = items2.length := by omega
    subst ei
    rw [List.drop_length] at e
    unfold dcIn at e
    split at e
    · rename_i hc
      injection e with e1 e2
      subst e1 e2
      exact .inl ⟨S2.stop ι (D :: β) H mh d.rel hi2 hc, last ι H mh acc kvs d hi q⟩
    · cases e
def restD (chk : MH → Bool) (p : TP) (r2 : IM) (p2 : TP) (vs2 : List Nat) (ek ev : EM) (xs : List MV) (σ : Lo) (l : List (MV × MV)) (h : MH) : R (List (MV × MV)) := match dcOut chk p r2 p2 vs2 ek ev xs σ h with
  | .ok r h3 => .ok (l ++ r) h3
  | _ => .bad
theorem restD_app {chk : MH → Bool} {xs : List MV} {σ : Lo} (k v : MV) (r : List (MV × MV)) (h : MH) : restD chk p r2 p2 vs2 ek ev xs σ ((k, v) :: r) h = match restD chk p r2 p2 vs2 ek ev xs σ r h with | .ok r' h' => .ok ((k, v) :: r') h' | x => x := by
  unfold restD
  cases dcOut chk p r2 p2 vs2 ek ev xs σ h <;> rfl
theorem restD_nil {chk : MH → Bool} {xs : List MV} {σ : Lo} {acc : List (MV × MV)} {h : MH} (q : PostD c ι1 β H1 D acc Q (restD chk p r2 p2 vs2 ek ev xs σ [] h)) : PostD c ι1 β H1 D acc Q (dcOut chk p r2 p2 vs2 ek ev xs σ h) := by
  unfold restD at q
  cases e : dcOut chk p r2 p2 vs2 ek ev xs σ h with
  | ok r h3 => simp only [e] at q; simpa using q
  | ex a b => simp only [e] at q; exact q.elim
  | bad => simp only [e] at q; exact q.elim
theorem out_of {mh : MH} {σm : Lo} {σ : St} (S : Src c J items chk inv) (rd : RdOk c vs g p) (rd2 : RdOk c vs2 g2 p2) (rel : Rel c ι1 β H1 mh) (rl : RepL c.K ι1 β H1 σm σ) (hi : inv ι1 β H1) (hD : H1 D = none)
    (q : PostD c ι1 β H1 D [] Q (dcOut chk p r2 p2 vs2 ek ev items (clrL vs σm) mh)) :
    ∃ W : Nat → Nat → Hp → Prop, (∃ m, W 0 m (upd H1 D (.dK []))) ∧ ∀ i m H, W i m H → (J.stop i H ∧ Q H) ∨
      (J.go i H ∧ ∃ Nx : Hp → Prop, (∀ H', Nx H' → ∃ m', m' < m ∧ W (i + 1) m' H') ∧ ∀ x H', J.yld i H x H' → g x (wipe σ vs) H' fun σ2 H2 => wipe σ2 vs = wipe σ vs ∧ tEm2 (tI c W0 r2) g2 (tE c W0 ek) (tE c W0 ev) vs2 D σ2 H2 Nx) := by
  let St' : Nat → Hp → Prop := fun i H => ∃ ι mh acc kvs, DAt c ι1 β H1 D (clrL vs σm) (wipe σ vs) ι H mh acc kvs ∧ inv ι (D :: β) H ∧ PostD c ι1 β H1 D acc Q (dcOut chk p r2 p2 vs2 ek ev (items.drop i) (clrL vs σm) mh)
  refine ⟨fun i m H => m = items.length - i ∧ i ≤ items.length ∧ St' i H, ⟨items.length, by simp, Nat.zero_le _, ι1, mh, [], [], ⟨rel.ban' hD (fun _ _ z => nomatch z), (rl.clear vs).move (Mov.ban hD), Fr.updN .refl hD, upd_same, rfl, rfl⟩, S.ban _ _ _ _ _ hi hD, by simpa using q⟩, ?_⟩
  rintro i m H ⟨rfl, hle, ι, mh, acc, kvs, d, hi, q⟩
  by_cases hlt : i < items.length
  · rw [List.drop_eq_getElem_cons hlt] at q
    unfold dcOut at q
    split at q
    · rename_i hc
      obtain ⟨go, yl⟩ := S.go ι (D :: β) H mh i items[i] d.rel hi hc (List.getElem?_eq_getElem hlt)
      refine .inr ⟨go, St' (i + 1), fun H' hN => ⟨items.length - (i + 1), by omega, rfl, hlt, hN⟩, fun x H' hy => ?_⟩
      obtain ⟨f1, rel1, rx⟩ := yl x H' hy
      cases ea : asP p items[i] (clrL vs σm) with
      | none => simp only [ea] at q; exact q.elim
      | some σ1 =>
        simp only [ea] at q
        have d1 := d.go f1 rel1
        refine rd ι (D :: β) H' mh items[i] x _ _ σ1 _ rel1 d1.rl rx ea fun σ' rl' hw => ⟨hw.trans (wipe_wipe σ vs), ?_⟩
        refine ⟨ι, D :: β, mh, σ1, rel1, rl', ?_⟩
        cases eI : r2 σ1 mh with
        | ok lc h1 =>
          obtain ⟨l2, chk2⟩ := lc
          simp only [eI] at q ⊢
          intro ι2 H2 J2 inv2 f2 rel2 S2 hi2
          have d2 := d1.go f2 rel2
          have hi' : inv ι2 (D :: β) H2 := S.mono _ _ _ _ _ (f1.trans f2) hi
          cases eA : dcIn chk2 p2 ek ev l2 (clrL vs2 σ1) h1 with
          | ok r h2 =>
            simp only [eA] at q
            refine in_of (Q := Q) (inv := fun ι β H => inv ι β H ∧ RepL c.K ι β H (clrL vs σm) (wipe σ vs)) (σm := σ1) (σ := σ') (rest := restD chk p r2 p2 vs2 ek ev (items.drop (i + 1)) (clrL vs σm)) S2 rd2 hD (d2.other (rl'.mono f2)) ⟨hi', d2.rl⟩ hi2 (fun ι β H ι' H' f z => ⟨S.mono _ _ _ _ _ f z.1, z.2.mono f⟩) (fun ι β H D o z => ⟨S.turn _ _ _ _ _ z.1, z.2.move Mov.turn⟩) (fun {r' h'} e => ?_) ⟨r, h2, eA⟩ (fun k v r h => restD_app k v r h) (St' (i + 1)) fun ι3 H3 mh3 acc3 kvs3 d3 hi3 q3 => ?_
            · rw [eA] at e
              injection e with e1 e2
              subst e1 e2
              unfold restD
              cases eO : dcOut chk p r2 p2 vs2 ek ev (items.drop (i + 1)) (clrL vs σm) h2 with
              | ok a b => simp only [eO] at q ⊢; exact q
              | ex a b => simp only [eO] at q; exact q.elim
              | bad => simp only [eO] at q; exact q.elim
            · exact ⟨ι3, mh3, acc3, kvs3, d3.other hi3.2, hi3.1, restD_nil q3⟩
          | ex a b => simp only [eA] at q; exact q.elim
          | bad => simp only [eA] at q; exact q.elim
        | ex a b => simp only [eI] at q; exact q.elim
        | bad => simp only [eI] at q; exact q.elim
    · exact q.elim
  · have ei : i = items.length := by omega
    subst ei
    rw [List.drop_length] at q
    unfold dcOut at q
    split at q
    · rename_i hc
      obtain ⟨_, _, q⟩ := q
      exact .inl ⟨S.stop ι (D :: β) H mh d.rel hi hc, q ι H kvs d.fr d.rel d.at_ d.rep d.nd⟩
    · exact q.elim
/-- how the dict that was built is handed on -/
def FinD (c : C) (fin : List (MV × MV) → MH → R MV) : Prop := ∀ ι1 β H1 mh0 D ι' H' l kvs h' Q W, Rel c ι1 β H1 mh0 → H1 D = none → Fr ι1 H1 ι' H' → Rel c ι' (D :: β) H' h' → H' D = some (.dK kvs) → RepKV c.K ι' (D :: β) H' l kvs → nodK l = true → Post c ι1 β H1 (RV c) Q W (fin l h') → Q (.ref D) H'
@[simp] def finDV (l : List (MV × MV)) (h : MH) : R MV := .ok (.dv (l.map (·.1)) (l.map (·.2))) h
@[simp] def finDR (l : List (MV × MV)) (h : MH) : R MV := .ok (.ref h.length) (h ++ [.dct l])
theorem RepKV.keys {K : PySem.W.Frag} {ι β : List Addr} {H : Hp} : ∀ {kvs : List (MV × MV)} {l : List (Key × V)}, RepKV K ι β H kvs l → RepKs (kvs.map (·.1)) (l.map (·.1)) ∧ RepVs K ι β H (kvs.map (·.2)) (l.map (·.2))
  | [], l, h => by
    have h : l = [] := h
    subst h
    exact ⟨rfl, .nil⟩
  | (k, m) :: r, l, h => by
    obtain ⟨k', v, r', rfl, e, rv, t⟩ := h
    obtain ⟨a, b⟩ := RepKV.keys t
    exact ⟨⟨k', r'.map (·.1), rfl, e, a⟩, .cons rv b⟩
theorem finD_V : FinD c finDV := fun ι1 β H1 mh0 D ι' H' l kvs h' Q W rel0 hD f rel hD' rv nd p => by
  obtain ⟨_, _, nD, _⟩ := rel.ban D List.mem_cons_self
  obtain ⟨a, b⟩ := (rv.move (Mov.free (D := D))).keys
  refine p ι' H' (.ref D) f rel.free ?_
  unfold RepV
  exact ⟨D, kvs, rfl, ⟨⟨_, hD', .inl rfl⟩, nD, nban rel0 hD⟩, a, b⟩
theorem finD_R : FinD c finDR := fun ι1 β H1 mh0 D ι' H' l kvs h' Q W rel0 hD f rel hD' rv nd p => by
  have nb := nban rel0 hD
  obtain ⟨_, _, nD, _⟩ := rel.ban D List.mem_cons_self
  refine p (ι' ++ [D]) H' (.ref D) ⟨?_, f.keep, fun a z n => ?_, f.frz⟩ (rel.own nb ⟨kvs, hD', rv.move Mov.own⟩) ?_
  · obtain ⟨t, rfl⟩ := f.pre
    exact ⟨t ++ [D], by simp⟩
  · rcases List.mem_append.mp z with z | z
    · exact f.news a z n
    · have : a = D := by simpa using z
      rw [this]; exact hD
  · unfold RepV
    refine ⟨D, rfl, ?_⟩
    rw [rel.len, List.getElem?_append_right (Nat.le_refl _)]
    simp
/-- {k: v for p in r for p2 in r2} -/
def mDc2 (r : IM) (p : TP) (r2 : IM) (p2 : TP) (ek ev : EM) (vs vs2 : List Nat) (fin : List (MV × MV) → MH → R MV) : EM := fun σ h => bindR (r σ h) fun lc h1 =>
  match dcOut lc.2 p r2 p2 vs2 ek ev lc.1 (clrL vs σ) h1 with
    | .ok l h2 => if (keysOk l && decide (l.length ≤ SZ)) = true then fin (putAll [] l) h2 else .bad
    | _ => .bad
end
section
variable {X : Cx} {c : C} {W : WX}
theorem mDc2_of {r r2 : IM} {p p2 : TP} {ek ev : EM} {vs vs2 : List Nat} {fin : List (MV × MV) → MH → R MV} {g g2 : TG} {σ : St} {H : Hp} {Q : VK} (fo : FinD c fin) (rd : RdOk c vs g p) (rd2 : RdOk c vs2 g2 p2) (h : tE c W (mDc2 r p r2 p2 ek ev vs vs2 fin) σ H Q) :
    tDc2 (tI c W r) g (tI c W0 r2) g2 (tE c W0 ek) (tE c W0 ev) vs vs2 σ H Q := by
  obtain ⟨ι, β, mh, σm, rel, rl, q⟩ := h
  refine ⟨ι, β, mh, σm, rel, rl, ?_⟩
  unfold mDc2 at q
  cases er : r σm mh with
  | ok lc h1 =>
    obtain ⟨l, chk⟩ := lc
    simp only [er, bindR] at q
    intro ι' H' J inv f rel' S hi D hD
    refine out_of (Q := fun H' => Q (.ref D) H') S rd rd2 rel' (rl.mono f) hi hD ?_
    cases el : dcOut chk p r2 p2 vs2 ek ev l (clrL vs σm) h1 with
    | ok l2 h2 =>
      simp only [el] at q
      split at q
      · rename_i ok
        rw [Bool.and_eq_true, decide_eq_true_eq] at ok
        refine ⟨ok.1, by simpa using ok.2, fun ι2 H2 kvs f2 rel2 hD2 rv2 nd2 => ?_⟩
        exact fo ι' β H' h1 D ι2 H2 (putAll [] l2) kvs h2 Q _ rel' hD f2 rel2 hD2 rv2 nd2 (Post.fr f q)
      · exact q.elim
    | ex a b => simp only [el] at q; exact q.elim
    | bad => simp only [el] at q; exact q.elim
  | ex x h1 => simp only [er, bindR] at q; exact q
  | bad => simp only [er, bindR] at q; exact q
theorem e_dc2 {kx vx tg iter tg2 iter2 : Expr} {scope : Scope} {own : List (Str × Nat)} {vs2 : List Nat} {pos : Pos} {r r2 : IM} {p p2 : TP} {ek ev : EM} {g g2 : TG} (fin : List (MV × MV) → MH → R MV) (fo : FinD c fin) (hc : X.calm = true) (hN : X.N.Nodup) (hi : PI X tg iter (tI c W r)) (ok : BlkOk X.N X.env.scope scope own)
    (rd : RdOk c (own.map (·.2)) g p) (rd2 : RdOk c vs2 g2 p2)
    (hg : ∀ (s : Shared) (H : Hp) (C : Addr) (cl : List (Str × Addr)) (fp : List Addr), PG (X.blk s H scope (compEnvC scope cl C X.env) fp) tg g)
    (hi2 : ∀ (s : Shared) (H : Hp) (C : Addr) (cl : List (Str × Addr)) (fp : List Addr), PI (X.blk s H scope (compEnvC scope cl C X.env) fp) tg2 iter2 (tI c W0 r2))
    (hg2 : ∀ (s : Shared) (H : Hp) (C : Addr) (cl : List (Str × Addr)) (fp : List Addr), PG (X.blk s H scope (compEnvC scope cl C X.env) fp) tg2 g2)
    (hk : ∀ (s : Shared) (H : Hp) (C : Addr) (cl : List (Str × Addr)) (fp : List Addr), PE (X.blk s H scope (compEnvC scope cl C X.env) fp) kx (tE c W0 ek))
    (hv : ∀ (s : Shared) (H : Hp) (C : Addr) (cl : List (Str × Addr)) (fp : List Addr), PE (X.blk s H scope (compEnvC scope cl C X.env) fp) vx (tE c W0 ev))
    (sub : ∀ σ : St, wipe (wipe σ vs2) (own.map (·.2)) = wipe σ (own.map (·.2))) (fold : ∀ x, foldedSetIterable iter X.env x = pure x := by intro _; rfl) (fold2 : ∀ env x, foldedSetIterable iter2 env x = pure x := by intro _ _; rfl) :
    PE X (.DictComp kx vx [⟨tg, iter, [], 0⟩, ⟨tg2, iter2, [], 0⟩] scope pos) (tE c W (mDc2 r p r2 p2 ek ev (own.map (·.2)) vs2 fin)) :=
  (pe_dc2 hc hN hi ok hg hi2 hg2 hk hv sub fold fold2).wk fun σ H Q h => mDc2_of fo rd rd2 h
/-- clearing some, then all -/
theorem wipe_sub {vs vs2 : List Nat} (h : ∀ i ∈ vs2, i ∈ vs) (σ : St) : wipe (wipe σ vs2) vs = wipe σ vs := by
  apply List.ext_getElem?
  intro j
  have key : ∀ (ws : List Nat) (τ : St) (j : Nat), (wipe τ ws)[j]? = if j ∈ ws ∧ j < τ.length then some none else τ[j]? := by
    intro ws
    induction ws with
    | nil => intro τ j; simp [wipe]
    | cons k ws ih =>
      intro τ j
      have e : wipe τ (k :: ws) = (wipe τ ws).set k none := rfl
      rw [e, List.getElem?_set, ih, wipe_length]
      by_cases z : k = j
      · subst z
        by_cases hk : k < τ.length
        · simp [hk]
        · simp [hk]
      · have z' : ¬ j = k := fun q => z q.symm
        simp [z, z']
  rw [key, key, key, wipe_length]
  by_cases m : j ∈ vs2 ∧ j < σ.length
  · simp [m, h j m.1]
  · simp [m]
end
end MP

/-! Mirror layer: methods of dicts, walks over items and enumerate. -/
namespace MP
open PySem PySem.Spec PyProof.Rows L2
/-! ### d.update(pairs) -/
def rDUpd (K : PySem.W.Frag) : V → List V → Hp → VK → Prop := fun x vs H Q => ∃ (a l : Addr) (kvs more : List (Key × V)) (ps : List Addr), x = .ref a ∧ vs = [.ref l] ∧ H a = some (.dK kvs) ∧ SqL K H l (ps.map V.ref) ∧ Paired (fun p kv => SqT K H p [kV kv.1, kv.2]) ps more ∧ kvs.length + ps.length ≤ sizeLine ∧ Q .non (upd H a (.dK (mergeK kvs more)))
/-- pairs of tracked tuples, as the machine has them -/
theorem pairs_at {X : Cx} {pins : List (Addr × Obj)} {σ : St} {H : Hp} {s : Shared} (I : Inv X pins σ H s) : ∀ {ps : List Addr} {kvs : List (Key × V)}, Paired (fun p kv => SqT X.K H p [kV kv.1, kv.2]) ps kvs →
    ∃ (pv : List (Value × Value)) (prs : List (Key × Value)), KV kvs prs ∧ pv.length = ps.length ∧ prs.length = ps.length ∧ ∀ (j : Nat) k v, pv[j]? = some (k, v) → ∃ b kk, ps[j]? = some b ∧ prs[j]? = some (kk, v) ∧ IsTup s.heap b #[k, v] ∧ (mixKind X.prog X.w).is kk k = true
  | _, _, .nil => ⟨[], [], .nil, rfl, rfl, fun j k v e => by simp at e⟩
  | _, _, .cons (a := p) (b := kv) h t => by
    obtain ⟨pv, prs, r, h1, h2, h3⟩ := pairs_at I t
    obtain ⟨its, rv, ht, _⟩ := I.tuple h
    obtain ⟨u, y, ei, ru, ry⟩ := vals2 rv
    subst ei
    refine ⟨(u, y) :: pv, (kv.1, y) :: prs, .cons ⟨rfl, ry⟩ r, by rw [List.length_cons, List.length_cons, h1], by rw [List.length_cons, List.length_cons, h2], fun j k v e => ?_⟩
    cases j with
    | zero =>
      simp at e
      obtain ⟨rfl, rfl⟩ := e
      exact ⟨p, kv.1, rfl, rfl, ht, kV_is ru⟩
    | succ j =>
      rw [List.getElem?_cons_succ] at e
      obtain ⟨b, kk, e1, e2, e3, e4⟩ := h3 j k v e
      exact ⟨b, kk, by rw [List.getElem?_cons_succ]; exact e1, by rw [List.getElem?_cons_succ]; exact e2, e3, e4⟩
theorem tup_is {h : Heap} {b : Addr} {xs : Array Value} (e : IsTup h b xs) : h.IsTuple b xs := by
  obtain ⟨o, ho, hc, n, hdat⟩ := e
  exact ⟨o, ho, hc, n, hdat⟩
theorem mtd_update {X : Cx} (hc : X.calm = true) : MtR X "dict.update" (rDUpd X.K) := by
  intro pins s σ H x vs v us Q I rx rv h
  obtain ⟨a, l, kvs, more, ps, rfl, rfl, ha, hl, hp, hz, q⟩ := h
  obtain rfl : v = Value.ref a := rx
  obtain ⟨u, rfl, ru⟩ : ∃ u, us = [u] ∧ RelV (V.ref l) u := by
    cases rv with
    | cons a b => cases b; exact ⟨_, rfl, a⟩
  obtain rfl : u = Value.ref l := ru
  obtain ⟨its, rvl, pl, hzl⟩ := I.list hl
  have ei := refs_at rvl
  subst ei
  obtain ⟨pv, prs, rel, hl1, hl2, hpr⟩ := pairs_at I hp
  obtain ⟨z, hd, vs0, rel0, dd⟩ := dk_of I.hok ha
  have pos : ∀ (j : Nat) k v, pv[j]? = some (k, v) → ∃ b, ps[j]? = some b ∧ IsTup s.heap b #[k, v] := fun j k v e => by
    obtain ⟨b, _, e1, _, e3, _⟩ := hpr j k v e
    exact ⟨b, e1, e3⟩
  have items : PySem.PairItems s.heap (ps.map Value.ref).toArray (fun j => ps.getD j 0) pv := by
    refine ⟨by simp [hl1], fun j k v e => ?_⟩
    obtain ⟨b, e1, e3⟩ := pos j k v e
    have e4 : ps.getD j 0 = b := by rw [List.getD_eq_getElem?_getD, e1]; rfl
    refine ⟨?_, ?_⟩
    · show (List.map Value.ref ps).toArray[j]? = some (Value.ref (ps.getD j 0))
      rw [e4]
      simp [e1]
    · show PySem.PairAt s.heap (ps.getD j 0) k v
      rw [e4]
      exact .inl (tup_is e3)
  obtain ⟨od, es, ep, hod, hcls, hdat, _⟩ := id dd
  have apart : a ∉ l :: (List.range pv.length).map (fun j => ps.getD j 0) := fun m => by
    rcases List.mem_cons.mp m with e | m
    · subst e
      obtain ⟨o, n, ho, hc', hd', hdat'⟩ := pl
      rw [hod] at ho; cases ho
      rw [hdat] at hdat'; cases hdat'
    · obtain ⟨j, hj, e⟩ := List.mem_map.mp m
      have hj := List.mem_range.mp hj
      obtain ⟨⟨k, v⟩, hkv⟩ : ∃ q, pv[j] = q := ⟨_, rfl⟩
      obtain ⟨b, e1, e3⟩ := pos j k v (by rw [List.getElem?_eq_getElem hj, hkv])
      have e4 : ps.getD j 0 = b := by rw [List.getD_eq_getElem?_getD, e1]; rfl
      rw [e4] at e
      subst e
      obtain ⟨o, ho, hc', n, hdat'⟩ := tup_is e3
      rw [hod] at ho; cases ho
      rw [hdat] at hdat'; cases hdat'
  have plain : PySem.PlainSeq "list" s.heap l (ps.map Value.ref).toArray := by
    obtain ⟨o, n, ho, hc', hd', hdat'⟩ := pl
    exact ⟨o, n, ho, hc', hd', hdat'⟩
  refine call_update_pairs (knd := mixKind X.prog X.w) (acc := vs0) (kvs := prs) (PySem.PairArg.list l (ps.map Value.ref).toArray (fun j => ps.getD j 0) pv) (I.ok.hd hc) ⟨plain, items⟩ apart ⟨by rw [hl2, hl1], fun i key v e => ?_⟩ dd (by rw [← rel0.length, hl1]; exact hz) fun h' tk dd' keep => ?_
  · obtain ⟨b, kk, _, e2, _, e4⟩ := hpr i key v e
    exact ⟨kk, e2, e4⟩
  · have len : (mergeK kvs more).length ≤ sizeLine := by
      have h1 := length_mergeK more kvs
      have h2 := rel.length
      omega
    have he : ∃ q, h'.get? a = some q := let ⟨q, _, _, hq, _⟩ := dd'; ⟨q, hq⟩
    refine ⟨.non, _, I.write (x := a) (e := a) (t' := tk) (by rw [ha]; exact True.intro) (.inl rfl) (fun b o hb e => keep b o hb (fun m => nomatch m) e) he (dk_new len hd (KV.merge rel rel0) dd'), rfl, q⟩
/-- pairs, as a list of mirror tuples -/
def kvs? : List MV → Option (List (MV × MV))
  | [] => some []
  | .tup [k, v] :: r => match mkey k, kvs? r with
    | some _, some l => some ((k, v) :: l)
    | _, _ => none
  | _ :: _ => none
theorem kvs?_map (l : List (MV × MV)) (h : keysOk l = true) : kvs? (l.map fun p => .tup [p.1, p.2]) = some l := by
  induction l with
  | nil => rfl
  | cons p l ih =>
    unfold keysOk at h
    rw [List.all_cons, Bool.and_eq_true] at h
    obtain ⟨kk, e⟩ := Option.isSome_iff_exists.mp h.1
    rw [List.map_cons, kvs?, ih h.2, e]
def mDUpd (a : MV) (as : List MV) (h : MH) : R MV := match a, as with
  | .ref n, [y] => match h[n]? with
    | some (.dct kvs) => match asL y h with
      | some l => match kvs? l with
        | some more => if (nodK kvs && decide (kvs.length + more.length ≤ SZ)) = true then .ok .non (setH h n (.dct (putAll kvs more))) else .bad
        | none => .bad
      | none => .bad
    | _ => .bad
  | _, _ => .bad
def mDClear (a : MV) (as : List MV) (h : MH) : R MV := match a, as with
  | .ref n, [] => match h[n]? with
    | some (.dct _) => .ok .non (setH h n (.dct []))
    | _ => .bad
  | _, _ => .bad
section
variable {c : C} {X : Cx} {W : WX}
theorem kvs_rep {ι β : List Addr} {H : Hp} : ∀ {l : List MV} {more : List (MV × MV)} {vs : List V}, kvs? l = some more → RepVs c.K ι β H l vs →
    ∃ (ps : List Addr) (km : List (Key × V)), vs = ps.map V.ref ∧ Paired (fun p kv => SqT c.K H p [kV kv.1, kv.2]) ps km ∧ RepKV c.K ι β H more km ∧ l.length = more.length
  | [], more, vs, e, r => by
    cases e
    rw [r.nil_iff]
    exact ⟨[], [], rfl, .nil, rfl, rfl⟩
  | m :: l, more, vs, e, r => by
    unfold kvs? at e
    split at e
    · rename_i heq; cases heq
    · rename_i k v r' heq
      injection heq with h1 h2
      subst h1 h2
      split at e
      · rename_i kk rl ek er
        injection e with e
        subst e
        obtain ⟨x, vr, rfl, rx, rt⟩ := r
        obtain ⟨ps, km, rfl, pp, rk, hl⟩ := kvs_rep er rt
        unfold RepV at rx
        obtain ⟨a, us, rfl, q, ru⟩ := rx
        obtain ⟨u1, u2, rfl, q1, q2⟩ := Vs2 ru
        have := mkey_rep ek q1
        subst this
        refine ⟨a :: ps, (kk, u2) :: km, rfl, .cons ?_ pp, ⟨kk, u2, km, rfl, ek, q2, rk⟩, by rw [List.length_cons, List.length_cons, hl]⟩
        rcases q with ⟨q, _, _⟩ | q
        · exact .inl (.inl q)
        · exact .inr q
      · cases e
    · cases e
theorem put_all {ι β : List Addr} {H : Hp} : ∀ {more : List (MV × MV)} {km : List (Key × V)} {kvs : List (MV × MV)} {l : List (Key × V)}, RepKV c.K ι β H more km → RepKV c.K ι β H kvs l → nodK kvs = true → RepKV c.K ι β H (putAll kvs more) (mergeK l km)
  | [], km, kvs, l, h, r, _ => by
    have h : km = [] := h
    subst h
    exact r
  | (k, m) :: more, km, kvs, l, h, r, nd => by
    obtain ⟨k', v, km', rfl, ek, rv, t⟩ := h
    show RepKV c.K ι β H (putAll (putKV kvs k m) more) (mergeK (putK l k' v) km')
    exact put_all t (put_rep ek rv r nd) (nod_put k m kvs nd)
theorem p_dupd : PMt c (rDUpd c.K) mDUpd := fun ι β H mh a as x xs Q W rel ra ras p => by
  unfold mDUpd at p
  split at p
  · rename_i n y
    split at p
    · rename_i kvs eo
      split at p
      · rename_i l el
        split at p
        · rename_i more em
          split at p
          · rename_i ok
            rw [Bool.and_eq_true, decide_eq_true_eq] at ok
            unfold RepV at ra
            obtain ⟨b, rfl, ea⟩ := ra
            obtain ⟨o2, e2, ro⟩ := rel.at ea
            rw [eo] at e2; cases e2
            obtain ⟨kl, hb, rk⟩ := ro
            obtain ⟨w, rfl, qw⟩ := Vs1 ras
            obtain ⟨la, us, rfl, sq, ru⟩ := asL_rep el rel qw
            obtain ⟨ps, km, rfl, pp, rkm, hlen⟩ := kvs_rep em ru
            have l1 : ps.length = more.length := by
              have := ru.length
              rw [List.length_map] at this
              omega
            refine ⟨b, la, kl, km, ps, rfl, rfl, hb, .inl (.inl sq), pp, by rw [← rk.length, l1, sz_eq]; exact ok.2, ?_⟩
            have nf : ∀ o u, H b ≠ some (.frz o u) := fun o u z => by rw [hb] at z; cases z
            have f := Fr.put (o := .dK (mergeK kl km)) ea nf
            exact p ι _ _ f (rel.put ea nf ⟨_, upd_same, (put_all rkm rk ok.1).move f.mov⟩) (rnon _ _ _)
          · exact p.elim
        · exact p.elim
      · exact p.elim
    · exact p.elim
  · exact p.elim
theorem p_dclear : PMt c rDClear mDClear := fun ι β H mh a as x xs Q W rel ra ras p => by
  unfold mDClear at p
  split at p
  · rename_i n
    split at p
    · rename_i kvs eo
      unfold RepV at ra
      obtain ⟨b, rfl, ea⟩ := ra
      obtain ⟨o2, e2, ro⟩ := rel.at ea
      rw [eo] at e2; cases e2
      obtain ⟨kl, hb, rk⟩ := ro
      have z : xs = [] := ras.nil_iff
      subst z
      have nf : ∀ o u, H b ≠ some (.frz o u) := fun o u z => by rw [hb] at z; cases z
      have f := Fr.put (o := .dK []) ea nf
      unfold rDClear
      exact ⟨b, kl, rfl, rfl, hb, p ι _ _ f (rel.put ea nf ⟨[], upd_same, rfl⟩) (rnon _ _ _)⟩
    · exact p.elim
  · exact p.elim
/-- a method of a dict that changes -/
def mMethD (f : MV → List MV → MH → R MV) (ro : EM) (rs : AM) : EM := fun σ h => bindR (ro σ h) fun a h1 => if isDct a h1 = true then bindR (rs σ h1) fun as h2 => f a as h2 else .bad
theorem dct_at {v : MV} {h : MH} {ι β : List Addr} {H : Hp} {x : V} (e : isDct v h = true) (rel : Rel c ι β H h) (rv : RepV c.K ι β H v x) : ∃ a kvs, x = .ref a ∧ H a = some (.dK kvs) := by
  unfold isDct at e
  split at e
  · rename_i n
    split at e
    · rename_i kvs eo
      unfold RepV at rv
      obtain ⟨b, rfl, ea⟩ := rv
      obtain ⟨o2, e2, ro⟩ := rel.at ea
      rw [eo] at e2; cases e2
      obtain ⟨kl, hb, _⟩ := ro
      exact ⟨b, kl, rfl, hb⟩
    · cases e
  · cases e
theorem e_methD {id name : String} {r : V → List V → Hp → VK → Prop} {f : MV → List MV → MH → R MV} {o e : Expr} {ro : EM} {es : List Expr} {rs : AM} {apos cpos : Pos} (slot : Slot "dict" name id) (hty : typeOf (.builtin id) = pure (.type "method_descriptor")) (hm : MtR X id r) (hp : PMt c r f) (ho : PE X o (tE c W ro)) (ha : PA X (e :: es) (tA c W rs))
    (hbase : attributeBase o name X.env (eval o X.env) = eval o X.env := by rfl)
    (hfew : ((backTo cpos (starEach (e :: es) X.env)).all (fun x => !x.1) && (backToKw cpos (keywordEach [] X.env)).all (fun x => x.1.isSome) && decide ((e :: es).length + ([] : List Keyword).length + (if ([] : List Keyword).isEmpty then 0 else 1) < 30)) = true := by rfl)
    (hline : (apos.endLine == cpos.line) = true := by rfl) (hs : starEach (e :: es) X.env = (false, eval e X.env) :: starEach es X.env := by rfl) (hplain : (backTo cpos (starEach es X.env)).any (·.1) = false := by rfl) :
    PE X (.Call (.Attribute o name apos) (e :: es) [] cpos) (tE c W (mMethD f ro rs)) :=
  (pe_bm PySem.F.plainAttrs_dict slot hty hm ho ha hbase hfew hline hs hplain).wk fun σ H Q ⟨ι, β, mh, σm, rel, rl, p⟩ => by
    refine (run1 rel rl p).mono fun x H1 ⟨ι1, mh1, v, f1, rel1, rl1, rv, p1⟩ => ?_
    split at p1
    · rename_i ed
      obtain ⟨a, kvs, rfl, hb⟩ := dct_at ed rel1 rv
      refine ⟨.inr (.inr (.inl ⟨rfl, .inl ⟨kvs, hb⟩⟩)), ?_⟩
      refine (run1 rel1 rl1 p1).mono fun xs H2 ⟨ι2, mh2, as, f2, rel2, rl2, ras, p2⟩ => ?_
      exact hp ι2 β H2 mh2 v as (.ref a) xs Q _ rel2 (rv.mono f2) ras p2
    · exact p1.elim
theorem e_methD0 {id name : String} {r : V → List V → Hp → VK → Prop} {f : MV → List MV → MH → R MV} {o : Expr} {ro : EM} {apos cpos : Pos} (slot : Slot "dict" name id) (hty : typeOf (.builtin id) = pure (.type "method_descriptor")) (hm : MtR X id r) (hp : PMt c r f) (ho : PE X o (tE c W ro))
    (hbase : attributeBase o name X.env (eval o X.env) = eval o X.env := by rfl) (hline : (apos.endLine == cpos.line) = true := by rfl) : PE X (.Call (.Attribute o name apos) [] [] cpos) (tE c W (mMethD f ro mNil)) :=
  (pe_bm0 PySem.F.plainAttrs_dict slot hty hm ho hbase hline).wk fun σ H Q ⟨ι, β, mh, σm, rel, rl, p⟩ => by
    refine (run1 rel rl p).mono fun x H1 ⟨ι1, mh1, v, f1, rel1, rl1, rv, p1⟩ => ?_
    split at p1
    · rename_i ed
      obtain ⟨a, kvs, rfl, hb⟩ := dct_at ed rel1 rv
      exact ⟨.inr (.inr (.inl ⟨rfl, .inl ⟨kvs, hb⟩⟩)), hp ι1 β H1 mh1 v [] (.ref a) [] Q _ rel1 rv .nil p1⟩
    · exact p1.elim
/-! ### d.get(k), d.pop(k) -/
def m2D (f : MV → MV → MH → R MV) (ra rb : EM) : EM := fun σ h => bindR (ra σ h) fun a h1 => if isDk a h1 = true then bindR (rb σ h1) fun b h2 => f a b h2 else .bad
def mDGet1 (a b : MV) (h : MH) : R MV := match asD a h with
  | some kvs => match mkey b with
    | some _ => .ok ((lookKV kvs b).getD .non) h
    | none => .bad
  | none => .bad
theorem isD_of {v : MV} {h : MH} {ι β : List Addr} {H : Hp} {x : V} (e : isDk v h = true) (rel : Rel c ι β H h) (rv : RepV c.K ι β H v x) : ∃ a, x = .ref a ∧ IsD H a := by
  unfold isDk at e
  obtain ⟨kvs, ek⟩ := Option.isSome_iff_exists.mp e
  obtain ⟨a, l, o, rfl, ho, iv, _⟩ := asD_rep ek rel rv
  refine ⟨a, rfl, .inl ⟨l, ?_⟩⟩
  rcases iv with rfl | ⟨od, rfl⟩
  · exact .inl ho
  · exact .inr ⟨od, ho⟩
theorem e_dget1 {o e : Expr} {ro re : EM} {apos cpos : Pos} (hu : X.A.units + 1 < cLine) (ho : PE X o (tE c W ro)) (he : PE X e (tE c W re)) (m : M1 X o "get" apos e cpos) : PE X (.Call (.Attribute o "get" apos) [e] [] cpos) (tE c W (m2D mDGet1 ro re)) :=
  (pe_dget1 hu ho he m).wk fun σ H Q ⟨ι, β, mh, σm, rel, rl, p⟩ => by
    refine (run1 rel rl p).mono fun x H1 ⟨ι1, mh1, v, f1, rel1, rl1, rv, p1⟩ => ?_
    split at p1
    · rename_i ed
      obtain ⟨a, rfl, isd⟩ := isD_of ed rel1 rv
      refine ⟨a, rfl, isd, ?_⟩
      refine (run1 rel1 rl1 p1).mono fun y H2 ⟨ι2, mh2, b, f2, rel2, rl2, rb, p2⟩ => ?_
      unfold mDGet1 at p2
      cases ek : asD v mh2 with
      | none => simp only [ek] at p2; exact p2.elim
      | some kvs =>
        simp only [ek] at p2
        cases eb : mkey b with
        | none => simp only [eb] at p2; exact p2.elim
        | some kk =>
          simp only [eb] at p2
          obtain ⟨a', l, ob, ea, hob, iv, rk⟩ := asD_rep ek rel2 (rv.mono f2)
          cases ea
          have := mkey_rep eb rb
          subst this
          refine ⟨valV l kk, dget_of hob iv kk, ?_⟩
          obtain ⟨i1, i2⟩ := look_rep eb rk
          cases el : lookKV kvs b with
          | none =>
            rw [el] at p2
            rw [i2 el]
            exact p2 ι2 H2 .non .refl rel2 (rnon _ _ _)
          | some w =>
            rw [el] at p2
            obtain ⟨vv, e1, rw'⟩ := i1 w el
            rw [e1]
            exact p2 ι2 H2 vv .refl rel2 rw'
    · exact p1.elim
theorem drop_rep {ι β : List Addr} {H : Hp} {y : MV} {b : Key} (hy : mkey y = some b) : ∀ {kvs : List (MV × MV)} {l : List (Key × V)}, RepKV c.K ι β H kvs l → nodK kvs = true → RepKV c.K ι β H (dropKV kvs y) (dropK l b)
  | [], l, h, _ => by
    have h : l = [] := h
    subst h
    exact rfl
  | (k, m) :: r, l, h, nd => by
    obtain ⟨k', v, r', rfl, ek, q, t⟩ := h
    have nd0 := nd
    unfold nodK at nd
    rw [Bool.and_eq_true] at nd
    have eb := mkey_beq ek hy
    unfold dropKV
    rw [eb]
    by_cases z : k' = b
    · subst z
      rw [if_pos (by simp)]
      have no : valV r' k' = none := by
        have := (look_rep ek t).2 (by simpa using nd.1)
        exact this
      rw [dropK_pos rfl, dropK_no (valV_not no)]
      exact t
    · rw [if_neg (by simp [z]), dropK_neg z]
      exact ⟨k', v, _, rfl, ek, q, drop_rep hy t nd.2⟩
def mDPop (a b : MV) (h : MH) : R MV := match a with
  | .ref n => match h[n]? with
    | some (.dct kvs) => match mkey b, lookKV kvs b with
      | some _, some v => if nodK kvs = true then .ok v (setH h n (.dct (dropKV kvs b))) else .bad
      | _, _ => .bad
    | _ => .bad
  | _ => .bad
theorem e_dpop1 {o e : Expr} {ro re : EM} {apos cpos : Pos} (ho : PE X o (tE c W ro)) (he : PE X e (tE c W re)) (m : M1 X o "pop" apos e cpos) : PE X (.Call (.Attribute o "pop" apos) [e] [] cpos) (tE c W (m2D mDPop ro re)) :=
  (pe_dpop1 ho he m).wk fun σ H Q ⟨ι, β, mh, σm, rel, rl, p⟩ => by
    refine (run1 rel rl p).mono fun x H1 ⟨ι1, mh1, v, f1, rel1, rl1, rv, p1⟩ => ?_
    split at p1
    · rename_i ed
      obtain ⟨a, rfl, isd⟩ := isD_of ed rel1 rv
      refine ⟨a, rfl, isd, ?_⟩
      refine (run1 rel1 rl1 p1).mono fun y H2 ⟨ι2, mh2, b, f2, rel2, rl2, rb, p2⟩ => ?_
      unfold mDPop at p2
      split at p2
      · rename_i n
        split at p2
        · rename_i kvs eo
          split at p2
          · rename_i kk w ekk ew
            split at p2
            · rename_i nd
              have rv2 := rv.mono f2
              unfold RepV at rv2
              obtain ⟨a', ea', ea⟩ := rv2
              cases ea'
              obtain ⟨o2, e2, ro'⟩ := rel2.at ea
              rw [eo] at e2; cases e2
              obtain ⟨kl, hb, rk⟩ := ro'
              have := mkey_rep ekk rb
              subst this
              obtain ⟨vv, e1, rw'⟩ := (look_rep ekk rk).1 w ew
              refine ⟨kl, kk, vv, hb, rfl, e1, ?_⟩
              have nf : ∀ o u, H2 a ≠ some (.frz o u) := fun o u z => by rw [hb] at z; cases z
              have f := Fr.put (o := .dK (dropK kl kk)) ea nf
              exact p2 ι2 _ _ f (rel2.put ea nf ⟨_, upd_same, (drop_rep ekk rk nd).move f.mov⟩) (rw'.mono f)
            · exact p2.elim
          · exact p2.elim
        · exact p2.elim
      · exact p2.elim
    · exact p1.elim
end
end MP

/-! Mirror layer: walks over items and enumerate; freezing within a block; membership in a tuple of plain values; dict(d). -/
namespace MP
open PySem PySem.Spec PyProof.Rows L2
section
variable {c : C} {X : Cx} {W : WX}
/-! ### for k, v in d.items() -/
def itI (v : MV) (h : MH) : R (List MV × (MH → Bool)) := match v with
  | .dv ks ws => .ok ((ks.zip ws).map fun p => .tup [p.1, p.2], fun _ => true) h
  | _ => .bad
def iI (re : EM) : IM := fun σ h => bindR (re σ h) itI
/-- a new pair of things that are there -/
theorem pair_new {ι β : List Addr} {H : Hp} {mh : MH} {a b : MV} {x y : V} {T : Addr} (rel : Rel c ι β H mh) (hT : H T = none) (ra : RepV c.K ι β H a x) (rb : RepV c.K ι β H b y) :
    Fr ι H ι (upd H T (.tup [x, y])) ∧ Rel c ι β (upd H T (.tup [x, y])) mh ∧ RepV c.K ι β (upd H T (.tup [x, y])) (.tup [a, b]) (.ref T) := by
  have f : Fr ι H ι (upd H T (.tup [x, y])) := Fr.lay rel hT
  refine ⟨f, rel.lay hT, ?_⟩
  unfold RepV
  exact ⟨T, [x, y], rfl, .inl ⟨upd_same, rel.fresh hT, nban rel hT⟩, .cons (ra.mono f) (.cons (rb.mono f) .nil)⟩
theorem src_items {ks ws : List MV} {a : Addr} {od : Obj} {l : List (Key × V)} (hk : RepKs ks (l.map (·.1))) (hw : ks.length = ws.length) : Src c (Iti a od l) ((ks.zip ws).map fun p => .tup [p.1, p.2]) (fun _ => true) (fun ι β H => H a = some (.frz od (.dK l)) ∧ a ∉ ι ∧ a ∉ β ∧ RepVs c.K ι β H ws (l.map (·.2))) := by
  have len : ks.length = l.length := by simpa using RepKs.len hk
  have lenI : ((ks.zip ws).map fun p : MV × MV => MV.tup [p.1, p.2]).length = l.length := by simp [hw]; omega
  refine ⟨?_, ?_, ?_, ?_, ?_⟩
  · rintro ι β H ι' H' f ⟨q, na, nb, r⟩
    exact ⟨f.frz a od _ q, f.out q na, nb, r.mono f⟩
  · rintro ι β H mh i m rel ⟨q, na, nb, r⟩ _ hm
    have hi : i < l.length := by rw [← lenI]; exact (List.getElem?_eq_some_iff.mp hm).1
    refine ⟨⟨q, hi⟩, fun x H' hy => ?_⟩
    obtain ⟨T, k, v, el, rfl, hT, rfl⟩ := hy
    rw [List.getElem?_map] at hm
    cases ez : (ks.zip ws)[i]? with
    | none => rw [ez] at hm; simp at hm
    | some p =>
      rw [ez] at hm
      simp only [Option.map_some, Option.some.injEq] at hm
      subst hm
      obtain ⟨e1, e2⟩ := List.getElem?_zip_eq_some.mp ez
      obtain ⟨k', ek, emk⟩ := RepKs.at hk e1
      obtain ⟨v', ev, rv⟩ := RepVs.get r e2
      rw [List.getElem?_map, el] at ek ev
      simp only [Option.map_some, Option.some.injEq] at ek ev
      subst ek ev
      refine pair_new rel hT ?_ rv
      cases hp : p.1 with
      | int i => rw [hp] at emk; cases emk; exact rint _ _ _
      | str z => rw [hp] at emk; cases emk; exact rstr _ _ _
      | _ => rw [hp] at emk; cases emk
  · rintro ι β H mh rel ⟨q, na, nb, r⟩ _
    exact ⟨q, by rw [lenI]; exact Nat.le_refl _⟩
  · rintro ι β H D o ⟨q, na, nb, r⟩ hD
    exact ⟨by rw [upd_ne (ne_of_none q hD)]; exact q, na, fun z => (List.mem_cons.mp z).elim (ne_of_none q hD) nb, r.move (Mov.ban hD)⟩
  · rintro ι β H D o ⟨q, na, nb, r⟩
    exact ⟨by rw [upd_ne (fun z => nb (by rw [z]; exact List.mem_cons_self))]; exact q, na, nb, r.move Mov.turn⟩
theorem i_items {elts : List Expr} {kk : Nat} {e : Expr} {tpos apos cpos : Pos} {re : EM} (he : PE X e (tE c W re)) (hbase : attributeBase e "items" X.env (eval e X.env) = eval e X.env := by rfl) (hline : (apos.endLine == cpos.line) = true := by rfl) :
    PI X (.Tuple elts kk tpos) (.Call (.Attribute e "items" apos) [] [] cpos) (tI c W (iI re)) :=
  (pi_items (pe_locked he) hbase hline).wk fun σ H R h => by
    refine (runI (Rp := RV c) h).mono fun x H1 ⟨ι1, β, mh1, σm, v, rel, rl, rv, p⟩ => ?_
    cases v with
    | dv ks ws =>
      unfold RepV at rv
      obtain ⟨a, l, rfl, ⟨⟨o, q, iv⟩, na, nb⟩, hk, r⟩ := rv
      have hw : ks.length = ws.length := by
        have h1 := RepKs.len hk
        have h2 := r.length
        simp at h1 h2
        omega
      rcases iv with rfl | ⟨od, rfl⟩
      · refine .inr ⟨a, .dK l, q, trivial, fun od => ⟨a, od, l, rfl, upd_same, ?_⟩⟩
        have f := lock_fr (od := od) q na
        exact p ι1 _ _ _ f (rel.locked q na nb) (src_items hk hw) ⟨upd_same, na, nb, r.mono f⟩
      · exact .inl ⟨a, od, l, rfl, q, p ι1 H1 _ _ .refl rel (src_items hk hw) ⟨q, na, nb, r⟩⟩
    | _ => exact p.elim
/-! ### for i, x in enumerate(l), l unchanging -/
def itE (as : List MV) (h : MH) : R (List MV × (MH → Bool)) := match as with
  | [.lv l] => .ok ((List.range l.length).map fun i => .tup [.int (i : Nat), l.getD i .non], fun _ => true) h
  | _ => .bad
def iE (rs : AM) : IM := fun σ h => bindR (rs σ h) itE
theorem src_enum {l : List MV} {a : Addr} {vs : List V} : Src c (Ite c.K a) ((List.range l.length).map fun i => .tup [.int (i : Nat), l.getD i .non]) (fun _ => true) (fun ι β H => H a = some (.lst vs) ∧ a ∉ ι ∧ a ∉ β ∧ RepVs c.K ι β H l vs) := by
  have sq : ∀ {H : Hp}, H a = some (.lst vs) → SqL c.K H a vs := fun q => .inl (.inl q)
  refine ⟨?_, ?_, ?_, ?_, ?_⟩
  · rintro ι β H ι' H' f ⟨q, na, nb, r⟩
    obtain ⟨o, e, w⟩ := f.keep a _ q na
    rw [w.lst] at e
    exact ⟨e, f.out q na, nb, r.mono f⟩
  · rintro ι β H mh i m rel ⟨q, na, nb, r⟩ _ hm
    have hi : i < l.length := by
      have := (List.getElem?_eq_some_iff.mp hm).1
      simpa using this
    have hiv : i < vs.length := by rw [← r.length]; exact hi
    refine ⟨⟨vs, vs[i], sq q, List.getElem?_eq_getElem hiv⟩, fun x H' hy => ?_⟩
    obtain ⟨T, y, rfl, hT, rfl, ey⟩ := hy
    have ey := ey vs (sq q)
    have em : m = .tup [.int (i : Nat), l[i]] := by
      rw [List.getElem?_map, List.getElem?_range hi] at hm
      simp only [Option.map_some, Option.some.injEq] at hm
      rw [← hm, List.getD_eq_getElem?_getD, List.getElem?_eq_getElem hi]; rfl
    subst em
    obtain ⟨v', ev, rv⟩ := RepVs.get r (List.getElem?_eq_getElem hi)
    rw [ey] at ev
    cases ev
    exact pair_new rel hT (rint _ _ _) rv
  · rintro ι β H mh rel ⟨q, na, nb, r⟩ _
    exact ⟨vs, sq q, by rw [List.length_map, List.length_range, r.length]; exact Nat.le_refl _⟩
  · rintro ι β H D o ⟨q, na, nb, r⟩ hD
    exact ⟨by rw [upd_ne (ne_of_none q hD)]; exact q, na, fun z => (List.mem_cons.mp z).elim (ne_of_none q hD) nb, r.move (Mov.ban hD)⟩
  · rintro ι β H D o ⟨q, na, nb, r⟩
    exact ⟨by rw [upd_ne (fun z => nb (by rw [z]; exact List.mem_cons_self))]; exact q, na, nb, r.move Mov.turn⟩
theorem i_enum {elts : List Expr} {kk : Nat} {e : Expr} {p pos tpos : Pos} {rs : AM} (hK : X.K = c.K) (hg : Gl X "enumerate") (hm : X.mg "enumerate" = none) (ha : PA X [e] (tA c W rs)) (hs : starEach [e] X.env = [(false, eval e X.env)] := by rfl) :
    PI X (.Tuple elts kk tpos) (.Call (.Name "enumerate" p) [e] [] pos) (tI c W (iE rs)) :=
  (pi_enum hg hm ha hs).wk fun σ H R h => by
    refine (runI (Rp := RVs c) h).mono fun xs H1 ⟨ι1, β, mh1, σm, as, rel, rl, ras, p⟩ => ?_
    match as, ras, p with
    | [.lv l], ras, p =>
      obtain ⟨v, rfl, rv⟩ := Vs1 ras
      unfold RepV at rv
      obtain ⟨a, vs, rfl, ⟨q, na, nb⟩, r⟩ := rv
      refine ⟨a, vs, rfl, .inl (.inl q), ?_⟩
      rw [hK]
      exact p ι1 H1 _ _ .refl rel src_enum ⟨q, na, nb, r⟩
    | [], _, p => exact p.elim
    | [.non], _, p => exact p.elim
    | [.bl _], _, p => exact p.elim
    | [.int _], _, p => exact p.elim
    | [.str _], _, p => exact p.elim
    | [.tup _], _, p => exact p.elim
    | [.dv _ _], _, p => exact p.elim
    | [.fz _], _, p => exact p.elim
    | [.ref _], _, p => exact p.elim
    | a :: b :: r, _, p =>
      have e : itE (a :: b :: r) mh1 = .bad := by cases a <;> rfl
      rw [e] at p
      exact p.elim
/-! ### x in (a, b, ..) -/
def flatM : MV → Option V
  | .non => some .non
  | .bl b => some (.bl b)
  | .int i => some (.int i)
  | .str x => some (.str x)
  | _ => none
theorem flat_rep {ι β : List Addr} {H : Hp} {m : MV} {x v : V} (e : flatM m = some x) (r : RepV c.K ι β H m v) : v = x ∧ flatV x = true := by
  cases m <;> simp only [flatM, Option.some.injEq, reduceCtorEq] at e <;> subst e <;> unfold RepV at r <;> exact ⟨r, rfl⟩
theorem flats_rep {ι β : List Addr} {H : Hp} : ∀ {l : List MV} {xs vs : List V}, mapO flatM l = some xs → RepVs c.K ι β H l vs → vs = xs ∧ xs.all flatV = true
  | [], xs, vs, e, r => by
    cases e
    exact ⟨r.nil_iff, rfl⟩
  | m :: l, xs, vs, e, r => by
    obtain ⟨v, vr, rfl, q, t⟩ := r
    unfold mapO at e
    cases e1 : flatM m with
    | none => simp only [e1] at e; cases e
    | some x =>
      simp only [e1] at e
      cases e2 : mapO flatM l with
      | none => simp only [e2] at e; cases e
      | some xr =>
        simp only [e2, Option.some.injEq] at e
        subst e
        obtain ⟨a1, a2⟩ := flat_rep e1 q
        obtain ⟨b1, b2⟩ := flats_rep e2 t
        subst a1 b1
        exact ⟨rfl, by rw [List.all_cons, a2, b2]; rfl⟩
def mInSN (neg : Bool) (a b : MV) (h : MH) : R MV := match flatM a, b with
  | some x, .tup l => match mapO flatM l with
    | some xs => .ok (.bl (if neg then !inV x xs else inV x xs)) h
    | none => .bad
  | _, _ => .bad
def mInS := mInSN false
def mNotInS := mInSN true
theorem p_inSN (neg : Bool) : P2 c (rIn c.K neg) (mInSN neg) := fun ι β H mh a b x y Q W rel ra rb p => by
  unfold mInSN at p
  split at p
  · rename_i x' l ex
    cases el : mapO flatM l with
    | none => simp only [el] at p; exact p.elim
    | some xs =>
      simp only [el] at p
      obtain ⟨rfl, fx⟩ := flat_rep ex ra
      unfold RepV at rb
      obtain ⟨t, vs, rfl, q, rvs⟩ := rb
      obtain ⟨rfl, fxs⟩ := flats_rep el rvs
      refine ⟨t, vs, rfl, .inr ?_, fx, fxs, p ι H _ .refl rel (rbl _ _ _)⟩
      rcases q with ⟨q, _, _⟩ | q
      · exact .inl (.inl q)
      · exact .inr q
  · exact p.elim
theorem p_inS : P2 c (rIn c.K false) mInS := p_inSN false
theorem p_notInS : P2 c (rIn c.K true) mNotInS := p_inSN true
/-! ### dict(d) -/
def mDict1 (fin : List (MV × MV) → MH → R MV) (as : List MV) (h : MH) : R MV := match as with
  | [a] => match asD a h with
    | some kvs => fin kvs h
    | none => .bad
  | _ => .bad
/-- a dict that is new at p -/
def FinND (c : C) (fin : List (MV × MV) → MH → R MV) : Prop := ∀ ι β H mh l kl p Q W, Rel c ι β H mh → RepKV c.K ι β H l kl → H p = none → Post c ι β H (RV c) Q W (fin l mh) → Q (.ref p) (upd H p (.dK kl))
theorem finND_R : FinND c finDR := fun ι β H mh l kl p Q W rel r hp q => by
  have f0 : Fr ι H ι (upd H p (.dK kl)) := Fr.lay rel hp
  have fr : Fr ι H (ι ++ [p]) (upd H p (.dK kl)) := ⟨⟨[p], rfl⟩, fun a o e n => f0.keep a o e n, fun a z n => by
    rcases List.mem_append.mp z with z | z
    · exact absurd z n
    · have : a = p := by simpa using z
      rw [this]; exact hp, f0.frz⟩
  refine q (ι ++ [p]) _ (.ref p) fr (rel.new hp ⟨kl, upd_same, r.move fr.mov⟩) ?_
  unfold RepV
  refine ⟨p, rfl, ?_⟩
  rw [rel.len, List.getElem?_append_right (Nat.le_refl _)]
  simp
theorem finND_V : FinND c finDV := fun ι β H mh l kl p Q W rel r hp q => by
  have f : Fr ι H ι (upd H p (.dK kl)) := Fr.lay rel hp
  obtain ⟨a, b⟩ := (r.move f.mov).keys
  refine q ι _ (.ref p) f (rel.lay hp) ?_
  unfold RepV
  exact ⟨p, kl, rfl, ⟨⟨_, upd_same, .inl rfl⟩, rel.fresh hp, nban rel hp⟩, a, b⟩
theorem p_dict1 {fin : List (MV × MV) → MH → R MV} (hf : FinND c fin) : PN c (fun xs H Q => ∃ (a : Addr) (kvs : List (Key × V)), xs = [.ref a] ∧ Rd H a (.dK kvs) ∧ ∀ p, H p = none → Q (.ref p) (upd H p (.dK kvs))) (mDict1 fin) := fun ι β H mh as xs Q W rel ra p => by
  unfold mDict1 at p
  split at p
  · rename_i a
    cases ea : asD a mh with
    | none => simp only [ea] at p; exact p.elim
    | some kvs =>
      simp only [ea] at p
      obtain ⟨v, rfl, q⟩ := Vs1 ra
      obtain ⟨d, l, o, rfl, hd, iv, r⟩ := asD_rep ea rel q
      refine ⟨d, l, rfl, ?_, fun z hz => hf _ _ _ _ _ _ _ _ _ rel r hz p⟩
      rcases iv with rfl | ⟨od, rfl⟩
      · exact .inl hd
      · exact .inr ⟨od, hd⟩
  · exact p.elim
end
end MP

/-! Mirror layer: statements in a row as one block, frozen at its end; == of dicts. -/
namespace MP
open PySem PySem.Spec PyProof.Rows L2
/-! ### blocks -/
theorem execs_two (env : Env) : ∀ (a b : List Stmt), execs (a ++ b) env = (execs a env >>= fun f => match f with | .next => execs b env | f => pure f)
  | [], b => by
    show execs b env = _
    rw [execs, pure_bind]
  | s :: a, b => by
    rw [List.cons_append, execs, execs, bind_assoc]
    congr 1
    funext f
    cases f with
    | next => exact execs_two env a b
    | brk => simp
    | cont => simp
    | ret v => simp
section
variable {X : Cx} {c : C} {W : WX}
theorem pss_app {a b : List Stmt} {t u : TS} (h1 : PSs X a t) (h2 : PSs X b u) : PSs X (a ++ b) (tSeq t u) := by
  refine ⟨fun pins s σ H D I h => ?_⟩
  rw [execs_two]
  refine wpAny_bind (thn (h1.run pins s σ H { D with nx := u D } I h) fun f s1 q => ?_)
  cases f with
  | next =>
    obtain ⟨σ', H', I', q⟩ := q
    exact h2.run pins s1 σ' H' D I' q
  | ret v => exact wpAny_pure q
  | brk => exact wpAny_pure q
  | cont => exact wpAny_pure q
theorem ss_app {a b : List Stmt} {r1 r2 : SM} (h1 : PSs X a (tS c W r1)) (h2 : PSs X b (tS c W r2)) : PSs X (a ++ b) (tS c W (sSeq r1 r2)) := (pss_app h1 h2).wk fun D σ H h => sSeq_of h
theorem ss_grp2 {a b : Stmt} {rest : List Stmt} {r1 r2 : SM} (h1 : PSs X [a, b] (tS c W r1)) (h2 : PSs X rest (tS c W r2)) : PSs X (a :: b :: rest) (tS c W (sSeq r1 r2)) := ss_app h1 h2
theorem ss_grp3 {a b d : Stmt} {rest : List Stmt} {r1 r2 : SM} (h1 : PSs X [a, b, d] (tS c W r1)) (h2 : PSs X rest (tS c W r2)) : PSs X (a :: b :: d :: rest) (tS c W (sSeq r1 r2)) := ss_app h1 h2
theorem ss_grp4 {a b d e : Stmt} {rest : List Stmt} {r1 r2 : SM} (h1 : PSs X [a, b, d, e] (tS c W r1)) (h2 : PSs X rest (tS c W r2)) : PSs X (a :: b :: d :: e :: rest) (tS c W (sSeq r1 r2)) := ss_app h1 h2
/-- all slots frozen -/
def frzL (h' : MH) (n : Nat) (σ : Lo) : Option Lo := mapO (fun o => match o with
  | none => some none
  | some v => (frV h' n 12 v).map some) σ
def sFz (body : SM) : SM := fun σ h => match body σ h with
  | .nx σ2 h2 => if h2.length ≤ h.length then .nx σ2 h2 else if keptH h h2 = true then match frzL h2 h.length σ2 with
    | some σ3 => .nx σ3 (h2.take h.length)
    | none => .nx σ2 h2
    else .nx σ2 h2
  | x => x
theorem mapO_get {α γ : Type} {f : α → Option γ} : ∀ {l : List α} {r : List γ}, mapO f l = some r → l.length = r.length ∧ ∀ (i : Nat) b, r[i]? = some b → ∃ a, l[i]? = some a ∧ f a = some b
  | [], r, e => by
    cases e
    exact ⟨rfl, fun i b e => by simp at e⟩
  | a :: l, r, e => by
    unfold mapO at e
    cases e1 : f a with
    | none => simp only [e1] at e; cases e
    | some b0 =>
      simp only [e1] at e
      cases e2 : mapO f l with
      | none => simp only [e2] at e; cases e
      | some r0 =>
        simp only [e2, Option.some.injEq] at e
        subst e
        obtain ⟨h1, h2⟩ := mapO_get e2
        refine ⟨by simp [h1], fun i b e => ?_⟩
        cases i with
        | zero =>
          simp only [List.getElem?_cons_zero, Option.some.injEq] at e
          subst e
          exact ⟨a, rfl, e1⟩
        | succ i =>
          rw [List.getElem?_cons_succ] at e
          obtain ⟨x, q1, q2⟩ := h2 i b e
          exact ⟨x, by rw [List.getElem?_cons_succ]; exact q1, q2⟩
theorem sFz_of {D : Ends} {body : SM} {σm : Lo} {mh : MH} {ι β : List Addr} {H : Hp} (r0 : Rel c ι β H mh) (p : PostS c ι β H D W (sFz body σm mh)) : PostS c ι β H D W (body σm mh) := by
  unfold sFz at p
  cases e : body σm mh with
  | nx σ2 h2 =>
    simp only [e] at p
    split at p
    · exact p
    · split at p
      · rename_i k
        cases ef : frzL h2 mh.length σ2 with
        | none => simp only [ef] at p; exact p
        | some σ3 =>
          simp only [ef] at p
          intro ι' H' σ' f rel rl
          obtain ⟨e1, f1⟩ := f.take
          have rel2 := rel.shrink (keptH_cl r0 k)
          rw [r0.len, e1] at rel2
          rw [r0.len] at p ef
          refine p ι H' σ' f1 rel2 ⟨?_, fun i m em => ?_⟩
          · rw [← (mapO_get ef).1]; exact rl.len
          · obtain ⟨o, eo, ev⟩ := (mapO_get ef).2 i _ em
            cases o with
            | none => cases ev
            | some v =>
              simp only at ev
              cases e3 : frV h2 ι.length 12 v with
              | none => rw [e3] at ev; cases ev
              | some v2 =>
                rw [e3] at ev
                cases ev
                obtain ⟨u, eu, rv⟩ := rl.val i v eo
                have rv2 := frV_rep (n := ι.length) (ι2 := ι'.take ι.length) (hd := h2) rel Sk.take' (fun k a o hk eo _ q => ⟨eo, not_take_of rel.nd q hk⟩) 12 v m u e3 rv
                rw [e1] at rv2
                exact ⟨u, eu, rv2⟩
      · exact p
  | ct σ2 h2 => simp only [e] at p; exact p
  | rt v h2 => simp only [e] at p; exact p
  | bk σ2 h2 => simp only [e] at p; exact p
  | ex x σ2 h2 => simp only [e] at p; exact p
  | bad => simp only [e] at p; exact p
theorem ss_fz {st : List Stmt} {body : SM} (h : PSs X st (tS c W body)) : PSs X st (tS c W (sFz body)) :=
  h.wk fun D σ H ⟨ι, β, mh, σm, rel, rl, p⟩ => ⟨ι, β, mh, σm, rel, rl, sFz_of rel p⟩
end
/-! ### == of dicts of data -/
/-- what each of ks comes to in ls -/
inductive HitsV (K : PySem.W.Frag) (H : Hp) (ls : List (Key × V)) : List (Key × V) → Bool → Prop
  | nil : HitsV K H ls [] true
  | miss {k : Key} {v : V} {r : List (Key × V)} : valV ls k = none → HitsV K H ls ((k, v) :: r) false
  | hit {k : Key} {v u : V} {r : List (Key × V)} {d e : PyData} {b : Bool} : valV ls k = some u → Dp K H v d → Dp K H u e → SeqAt.shaped d = true → SeqAt.shaped e = true → HitsV K H ls r b → HitsV K H ls ((k, v) :: r) (PyData.eqv d e && b)
def rEqDK (K : PySem.W.Frag) (neg : Bool) : R2 := fun x y H Q => ∃ a b ks ls r, x = .ref a ∧ y = .ref b ∧ Rd H a (.dK ks) ∧ Rd H b (.dK ls) ∧ (ks.length = ls.length → HitsV K H ls ks r) ∧ Q (.bl (if neg then !(decide (ks.length = ls.length) && r) else (decide (ks.length = ls.length) && r))) H
section
variable {X : Cx} {c : C}
theorem shaped_lay {d : PyData} (h : SeqAt.shaped d = true) : d.canLay0 = true ∧ d.depth ≤ 64 := by
  unfold SeqAt.shaped at h
  rw [Bool.and_eq_true] at h
  exact ⟨h.1, by simpa using h.2⟩
theorem hits_at {pins : List (Addr × Obj)} {σ : St} {H : Hp} {s : Shared} (I : Inv X pins σ H s) {A : Around} (hu : A.units + 64 < cLine) {ls : List (Key × V)} {vb : List (Key × Value)} (rb : KV ls vb) : ∀ {ks : List (Key × V)} {r : Bool} {va : List (Key × Value)}, HitsV X.K H ls ks r → KV ks va → PySem.W.KeqHits A s vb va r := by
  intro ks r va h
  induction h generalizing va with
  | nil => intro ra; cases ra; exact .nil
  | @miss k v r' hn =>
    intro ra
    cases ra with
    | @cons p q ps qs h t =>
      obtain ⟨key, w⟩ := q
      obtain ⟨h1, h2⟩ := h
      have h1 : k = key := h1
      subst h1
      have rr : RelO (valV ls k) (valueAt vb k) := rb.val k
      rw [hn] at rr
      refine .miss ?_
      cases e : valueAt vb k with
      | none => rfl
      | some y => rw [e] at rr; exact rr.elim
  | @hit k v u r' d e b hn dv du sd se hr ih =>
    intro ra
    cases ra with
    | @cons p q ps qs h t =>
      obtain ⟨key, w⟩ := q
      obtain ⟨h1, h2⟩ := h
      have h1 : k = key := h1
      subst h1
      have rr : RelO (some u) (valueAt vb k) := by rw [← hn]; exact rb.val k
      obtain ⟨y, hy, ry⟩ := rr.some_of
      obtain ⟨as, r1⟩ := Dp.reads I d v w dv h2
      obtain ⟨bs, r2⟩ := Dp.reads I e u y du ry
      obtain ⟨c1, d1⟩ := shaped_lay sd
      obtain ⟨c2, d2⟩ := shaped_lay se
      exact .hit hy (SeqAt.eqAt_reads d e A s w y as bs r1 r2 c1 c2 (by omega)) (ih t)
theorem op_eqDK (hu : X.A.units + 65 < cLine) : OpR X (compareOp .Eq) (rEqDK X.K false) := by
  intro pins s σ H x y v u Q I rx ry h
  obtain ⟨a, b, ks, ls, r, rfl, rfl, ea, eb, hits, q⟩ := h
  obtain rfl : v = Value.ref a := rx
  obtain rfl : u = Value.ref b := ry
  obtain ⟨_, ya, va, ra, da⟩ := dk_rd I.hok ea
  obtain ⟨_, yb, vb, rb, db⟩ := dk_rd I.hok eb
  have hl : (va.length == vb.length) = decide (ks.length = ls.length) := by rw [← ra.length, ← rb.length]; rfl
  refine PySem.W.keq_eq (knd := mixKind X.prog X.w) (r := r) ya yb da db (by omega) (fun e => hits_at I (by show X.A.units + 1 + 64 < cLine; omega) rb (hits (by rw [ra.length, rb.length]; exact e)) ra) ⟨.bl _, H, I, rfl, ?_⟩
  rw [hl]; exact q
theorem op_neDK (hu : X.A.units + 65 < cLine) : OpR X (compareOp .NotEq) (rEqDK X.K true) := by
  intro pins s σ H x y v u Q I rx ry h
  obtain ⟨a, b, ks, ls, r, rfl, rfl, ea, eb, hits, q⟩ := h
  obtain rfl : v = Value.ref a := rx
  obtain rfl : u = Value.ref b := ry
  obtain ⟨_, ya, va, ra, da⟩ := dk_rd I.hok ea
  obtain ⟨_, yb, vb, rb, db⟩ := dk_rd I.hok eb
  have hl : (va.length == vb.length) = decide (ks.length = ls.length) := by rw [← ra.length, ← rb.length]; rfl
  refine PySem.W.keq_ne (knd := mixKind X.prog X.w) (r := r) ya yb da db (by omega) (fun e => hits_at I (by show X.A.units + 1 + 64 < cLine; omega) rb (hits (by rw [ra.length, rb.length]; exact e)) ra) ⟨.bl _, H, I, rfl, ?_⟩
  rw [hl]; exact q
/-- the mirror's look -/
def hitsM (h : MH) (ls : List (MV × MV)) : List (MV × MV) → Option Bool
  | [] => some true
  | (k, v) :: r => match mkey k with
    | none => none
    | some _ => match lookKV ls k with
      | none => some false
      | some u => match toD h 12 v, toD h 12 u with
        | some d, some e => if (SeqAt.shaped d && SeqAt.shaped e) = true then match hitsM h ls r with
            | some b => some (PyData.eqv d e && b)
            | none => none
          else none
        | _, _ => none
def eqDM (neg : Bool) (a b : MV) (h : MH) : R MV := match asD a h, asD b h with
  | some ks, some ls => if ks.length = ls.length then match hitsM h ls ks with
      | some r => .ok (.bl (if neg then !r else r)) h
      | none => .bad
    else .ok (.bl neg) h
  | _, _ => .bad
theorem hits_rep {ι β : List Addr} {H : Hp} {mh : MH} (rel : Rel c ι β H mh) {ls : List (MV × MV)} {lv : List (Key × V)} (rl : RepKV c.K ι β H ls lv) : ∀ {ks : List (MV × MV)} {kv : List (Key × V)} {r : Bool}, hitsM mh ls ks = some r → RepKV c.K ι β H ks kv → HitsV c.K H lv kv r
  | [], kv, r, e, h => by
    have h : kv = [] := h
    subst h
    cases e
    exact .nil
  | (k, m) :: ks, kv, r, e, h => by
    obtain ⟨k', v, kv', rfl, ek, rv, t⟩ := h
    unfold hitsM at e
    simp only [ek] at e
    obtain ⟨i1, i2⟩ := look_rep ek rl
    cases el : lookKV ls k with
    | none =>
      simp only [el, Option.some.injEq] at e
      subst e
      exact .miss (i2 el)
    | some u =>
      simp only [el] at e
      obtain ⟨uv, e1, ru⟩ := i1 u el
      cases ed : toD mh 12 m with
      | none => simp only [ed] at e; cases e
      | some d =>
        cases ee : toD mh 12 u with
        | none => simp only [ed, ee] at e; cases e
        | some d2 =>
          simp only [ed, ee] at e
          split at e
          · rename_i sh
            rw [Bool.and_eq_true] at sh
            cases eh : hitsM mh ls ks with
            | none => simp only [eh] at e; cases e
            | some b =>
              simp only [eh, Option.some.injEq] at e
              subst e
              exact .hit e1 (toD_dp rel _ _ _ _ ed rv) (toD_dp rel _ _ _ _ ee ru) sh.1 sh.2 (hits_rep rel rl eh t)
          · cases e
theorem rd_of_dv {H : Hp} {a : Addr} {o : HO} {l : List (Key × V)} (e : H a = some o) (iv : IsDV o l) : Rd H a (.dK l) := by
  rcases iv with rfl | ⟨od, rfl⟩
  · exact .inl e
  · exact .inr ⟨od, e⟩
theorem p_eqDM (neg : Bool) : P2 c (rEqDK c.K neg) (eqDM neg) := fun ι β H mh a b x y Q W rel ra rb p => by
  unfold eqDM at p
  cases ea : asD a mh with
  | none => simp only [ea] at p; exact p.elim
  | some ks =>
    cases eb : asD b mh with
    | none => simp only [ea, eb] at p; exact p.elim
    | some ls =>
      simp only [ea, eb] at p
      obtain ⟨a1, l1, o1, rfl, h1, v1, r1⟩ := asD_rep ea rel ra
      obtain ⟨a2, l2, o2, rfl, h2, v2, r2⟩ := asD_rep eb rel rb
      have len1 := r1.length
      have len2 := r2.length
      by_cases hl : ks.length = ls.length
      · rw [if_pos hl] at p
        cases eh : hitsM mh ls ks with
        | none => simp only [eh] at p; exact p.elim
        | some r =>
          simp only [eh] at p
          refine ⟨a1, a2, l1, l2, r, rfl, rfl, rd_of_dv h1 v1, rd_of_dv h2 v2, fun _ => hits_rep rel r2 eh r1, ?_⟩
          have e : decide (l1.length = l2.length) = true := decide_eq_true (by omega)
          rw [e, Bool.true_and]
          exact p ι H _ .refl rel (rbl _ _ _)
      · rw [if_neg hl] at p
        refine ⟨a1, a2, l1, l2, true, rfl, rfl, rd_of_dv h1 v1, rd_of_dv h2 v2, fun e => absurd (by omega) hl, ?_⟩
        have e : decide (l1.length = l2.length) = false := decide_eq_false (by omega)
        rw [e, Bool.false_and]
        have e2 : (if neg = true then !false else false) = neg := by cases neg <;> rfl
        rw [e2]
        exact p ι H _ .refl rel (rbl _ _ _)
/-! ### == of all these -/
def eqSt (neg : Bool) (a b : MV) (h : MH) : R MV := match a, b with
  | .str x, .str y => .ok (.bl (if neg then !decide (x = y) else decide (x = y))) h
  | _, _ => .bad
def orB {α : Type} (x y : R α) : R α := match x with
  | .bad => y
  | z => z
@[simp] theorem orB_ok {α : Type} {a : α} {h : MH} {y : R α} : orB (.ok a h) y = .ok a h := rfl
def mEqA (a b : MV) (h : MH) : R MV := orB (mEq a b h) (orB (eqSt false a b h) (eqDM false a b h))
def mNeA (a b : MV) (h : MH) : R MV := orB (mNe a b h) (orB (eqSt true a b h) (eqDM true a b h))
theorem mEqA_ok {a b v : MV} {h h' : MH} (e : mEq a b h = .ok v h') : mEqA a b h = .ok v h' := by unfold mEqA; rw [e]; rfl
theorem mNeA_ok {a b v : MV} {h h' : MH} (e : mNe a b h = .ok v h') : mNeA a b h = .ok v h' := by unfold mNeA; rw [e]; rfl
@[simp] theorem eqA_int (i j : Int) (h : MH) : mEqA (.int i) (.int j) h = .ok (.bl (decide (i = j))) h := mEqA_ok (eq_int i j h)
@[simp] theorem neA_int (i j : Int) (h : MH) : mNeA (.int i) (.int j) h = .ok (.bl (!decide (i = j))) h := mNeA_ok (ne_int i j h)
def rEqAll (K : PySem.W.Frag) : R2 := fun x y H Q => rEqD K x y H Q ∨ rEq x y H Q ∨ rEqDK K false x y H Q
def rNeAll (K : PySem.W.Frag) : R2 := fun x y H Q => rNeD K x y H Q ∨ rNe x y H Q ∨ rEqDK K true x y H Q
theorem op_eqX (hu : X.A.units + 65 < cLine) : OpR X (compareOp .Eq) (rEqAll X.K) := (op_eqD (by omega)).or (op_eq.or (op_eqDK hu))
theorem op_neX (hu : X.A.units + 65 < cLine) : OpR X (compareOp .NotEq) (rNeAll X.K) := (op_neD (by omega)).or (op_ne.or (op_neDK hu))
theorem P2.orB {r1 r2 : R2} {f g : MV → MV → MH → R MV} (h1 : P2 c r1 f) (h2 : P2 c r2 g) : P2 c (fun x y H Q => r1 x y H Q ∨ r2 x y H Q) (fun a b h => MP.orB (f a b h) (g a b h)) := fun ι β H mh a b x y Q W rel ra rb p => by
  have p : Post c ι β H (RV c) Q W (MP.orB (f a b mh) (g a b mh)) := p
  cases e : f a b mh with
  | ok v h' => rw [e] at p; exact .inl (h1 ι β H mh a b x y Q W rel ra rb (by rw [e]; exact p))
  | ex v h' => rw [e] at p; exact .inl (h1 ι β H mh a b x y Q W rel ra rb (by rw [e]; exact p))
  | bad => rw [e] at p; exact .inr (h2 ι β H mh a b x y Q W rel ra rb p)
theorem p_eqSt : P2 c rEq (eqSt false) := fun ι β H mh a b x y Q W rel ra rb p => by
  unfold eqSt at p
  split at p
  · rename_i u v
    rw [rs ra, rs rb]
    refine ⟨rfl, ?_⟩
    have e : decide (V.str u = V.str v) = decide (u = v) := by
      by_cases z : u = v
      · subst z; simp
      · simp [z]
    rw [e]
    exact p ι H _ .refl rel (rbl _ _ _)
  · exact p.elim
theorem p_neSt : P2 c rNe (eqSt true) := fun ι β H mh a b x y Q W rel ra rb p => by
  unfold eqSt at p
  split at p
  · rename_i u v
    rw [rs ra, rs rb]
    refine ⟨rfl, ?_⟩
    have e : decide (V.str u = V.str v) = decide (u = v) := by
      by_cases z : u = v
      · subst z; simp
      · simp [z]
    rw [e]
    exact p ι H _ .refl rel (rbl _ _ _)
  · exact p.elim
theorem p_eqX : P2 c (rEqAll c.K) mEqA := p_eq.orB (p_eqSt.orB (p_eqDM false))
theorem p_neX : P2 c (rNeAll c.K) mNeA := p_ne.orB (p_neSt.orB (p_eqDM true))
end
end MP

/-! Mirror layer: list(range(a, b, c)); sorted of a list of small pairs. -/
namespace MP
open PySem PySem.Spec PyProof.Rows L2
section
variable {X : Cx} {c : C} {W : WX}
def rgcV (a d : Int) (n : Nat) : List V := (List.range n).map fun i => V.int (a + (i : Nat) * d)
theorem vals_rgc {a d : Int} {n : Nat} {acc : Array Value} (h : ItemsOf (fun i v => ∃ t, v = .int (a + i * d) t) acc n) : Vals (rgcV a d n) acc.toList := by
  have e : acc.toList.length = n := by rw [Array.length_toList]; exact h.1
  unfold rgcV
  rw [← e]
  refine vals_of_get acc.toList _ fun j u hj => ?_
  obtain ⟨t, rfl⟩ := h.2 j u (by rw [← hj, Array.getElem?_toList])
  exact ⟨t, rfl⟩
def tLstRgC (ta : TA) : TE := fun σ H Q => ta σ H fun vs H1 => ∃ (i j d : Int) (n : Nat), vs = [.int i, .int j, .int d] ∧ RgC i j d n ∧ n ≤ 2 ^ 24 ∧ ∀ q, H1 q = none → Q (.ref q) (upd H1 q (.lst (rgcV i d n)))
theorem pe_listRgC {a b d : Expr} {ta : TA} {p p2 pos pos2 : Pos} (hc : X.calm = true) (hg : Gl X "list") (hm : X.mg "list" = none) (hg2 : Gl X "range") (hm2 : X.mg "range" = none) (ha : PA X [a, b, d] ta)
    (hs : starEach [a, b, d] X.env = (false, eval a X.env) :: starEach [b, d] X.env := by rfl) (hpl : (backTo pos2 (starEach [b, d] X.env)).any (·.1) = false := by rfl)
    (na : starEach [.Call (.Name "range" p2) [a, b, d] [] pos2] X.env = (false, eval (.Call (.Name "range" p2) [a, b, d] [] pos2) X.env) :: starEach [] X.env := by rfl) :
    PE X (.Call (.Name "list" p) [.Call (.Name "range" p2) [a, b, d] [] pos2] [] pos) (tLstRgC ta) := by
  refine ⟨fun pins s σ H Q I h => ?_⟩
  refine Call_ (ld_blt I hg hm boot_list (PyProof.Rows.callWith_type1 (args_cons (wpAny_mono (Q := fun x s1 => ∃ r i j k n t u v H1, x = .ref r ∧ IsRange s1.heap r i j k t u v ∧ RgC i j k n ∧ n ≤ 2 ^ 24 ∧ Inv X pins σ H1 s1 ∧ ∀ q, H1 q = none → Q (.ref q) (upd H1 q (.lst (rgcV i k n)))) ?_ ?_ (fun _ _ h => h)) na) na))
  · refine Call_ (ld_blt I hg2 hm2 boot_range (PyProof.Rows.callWith_type1 (thn (ha.run pos2 pins s σ H _ I h) fun us s1 ⟨vs, H1, I1, r1, q1⟩ => ?_) hs hpl))
    obtain ⟨i, j, k, n, e, ⟨c0, c1, c2, c3⟩, hn, q⟩ := q1
    subst e
    cases r1 with
    | cons r rr =>
      cases rr with
      | cons r' rr =>
        cases rr with
        | cons r'' rr =>
          cases rr
          obtain ⟨t, rfl⟩ := r
          obtain ⟨t', rfl⟩ := r'
          obtain ⟨t'', rfl⟩ := r''
          exact call_range_3 c0 ⟨_, i, j, k, n, _, _, _, H1, rfl, IsRange.new _ _ _ _ _ _ _, ⟨c0, c1, c2, c3⟩, hn, I1.kept (t' := s1.toks) fun b o e => Heap.get?_push_of_some _ e, q⟩ (.inl (PyProof.noPylong_small c1))
  · intro x s1 ⟨r, i, j, k, n, t, u, v, H1, ex, hr, ⟨c0, c1, c2, c3⟩, hn, I1, q⟩
    refine args_nil ?_
    subst ex
    refine call_list_range (n := n) (I1.ok.hd hc) hr c2 c3 hn fun h' tk acc c' hk e' hi => ?_
    have hl : (rgcV i k n).length = n := by unfold rgcV; rw [List.length_map, List.length_range]
    refine ⟨.ref s1.heap.objs.size, upd H1 s1.heap.objs.size (.lst (rgcV i k n)), I1.laid hk (Nat.le_refl _) (show ObjOk X.prog X.w _ _ _ (.lst (rgcV i k n)) from ⟨?_, acc.toList, c', vals_rgc hi, ?_⟩), rfl, q _ (I1.hok.fresh (Nat.le_refl _))⟩
    · rw [hl, sizeLine_eq]; omega
    · rw [Array.toArray_toList]; exact e'
def mRg3 (fin : List MV → MH → R MV) (as : List MV) (h : MH) : R MV := match as with
  | [.int i, .int j, .int d] => if (inB i && inB j && decide (0 < d) && decide (d < 1000000) && decide ((Builtin.Range.rangeSize i j d).toNat ≤ SZ)) = true then fin (rgM i d (Builtin.Range.rangeSize i j d).toNat) h else .bad
  | _ => .bad
theorem rgc_rep {ι β : List Addr} {H : Hp} (a d : Int) (n : Nat) : RepVs c.K ι β H (rgM a d n) (rgcV a d n) := by
  unfold rgM rgcV
  generalize (List.range n) = l
  induction l with
  | nil => exact .nil
  | cons i l ih => exact .cons (rint _ _ _) ih
theorem p_rg3 {fin : List MV → MH → R MV} (hf : FinN c fin) : PN c (fun xs H Q => ∃ (i j d : Int) (n : Nat), xs = [.int i, .int j, .int d] ∧ RgC i j d n ∧ n ≤ 2 ^ 24 ∧ ∀ q, H q = none → Q (.ref q) (upd H q (.lst (rgcV i d n)))) (mRg3 fin) := fun ι β H mh as xs Q W rel ra p => by
  unfold mRg3 at p
  split at p
  · rename_i i j d
    split at p
    · rename_i h
      simp only [Bool.and_eq_true, decide_eq_true_eq] at h
      obtain ⟨⟨⟨⟨h1, h2⟩, h3⟩, h4⟩, h5⟩ := h
      obtain ⟨v, v', v2, rfl, q, q', q2⟩ := Vs3 ra
      exact ⟨i, j, d, _, by rw [ri q, ri q', ri q2], rgC_of (inB_iff h1) (inB_iff h2) h3 h4, h5, fun z hz => hf _ _ _ _ _ _ _ _ _ rel (rgc_rep i d _) hz p⟩
    · exact p.elim
  · exact p.elim
theorem e_listRg3 {a b d : Expr} {rs : AM} {fin : List MV → MH → R MV} {p p2 pos pos2 : Pos} (hf : FinN c fin) (hc : X.calm = true) (hg : Gl X "list") (hm : X.mg "list" = none) (hg2 : Gl X "range") (hm2 : X.mg "range" = none) (ha : PA X [a, b, d] (tA c W rs))
    (hs : starEach [a, b, d] X.env = (false, eval a X.env) :: starEach [b, d] X.env := by rfl) (hpl : (backTo pos2 (starEach [b, d] X.env)).any (·.1) = false := by rfl)
    (na : starEach [.Call (.Name "range" p2) [a, b, d] [] pos2] X.env = (false, eval (.Call (.Name "range" p2) [a, b, d] [] pos2) X.env) :: starEach [] X.env := by rfl) :
    PE X (.Call (.Name "list" p) [.Call (.Name "range" p2) [a, b, d] [] pos2] [] pos) (tE c W (mN (mRg3 fin) rs)) :=
  (pe_listRgC hc hg hm hg2 hm2 ha hs hpl na).wk fun σ H Q h => mN_of (p_rg3 hf) h
end
/-! ### sorted, of a list of few small pairs -/
def insQ (x : Int × Int) : List (Int × Int) → List (Int × Int)
  | [] => [x]
  | y :: l => if pcode x ≤ pcode y then x :: y :: l else y :: insQ x l
def sortQ : List (Int × Int) → List (Int × Int)
  | [] => []
  | x :: l => insQ x (sortQ l)
theorem insQ_perm (x : Int × Int) : ∀ l, (insQ x l).Perm (x :: l)
  | [] => .refl _
  | y :: r => by
    unfold insQ
    split
    · exact .refl _
    · exact ((insQ_perm x r).cons y).trans (.swap _ _ _)
theorem sortQ_perm : ∀ l, (sortQ l).Perm l
  | [] => .refl _
  | x :: r => (insQ_perm x _).trans ((sortQ_perm r).cons x)
theorem insQ_sorted (x : Int × Int) : ∀ {l : List (Int × Int)}, (l.map pcode).Pairwise (· ≤ ·) → ((insQ x l).map pcode).Pairwise (· ≤ ·)
  | [], _ => by simp [insQ]
  | y :: r, h => by
    rw [List.map_cons, List.pairwise_cons] at h
    unfold insQ
    split
    · rename_i z
      rw [List.map_cons, List.pairwise_cons]
      refine ⟨fun b hb => ?_, by rw [List.map_cons, List.pairwise_cons]; exact h⟩
      rcases List.mem_cons.mp hb with rfl | hb
      · exact z
      · exact Int.le_trans z (h.1 b hb)
    · rename_i z
      rw [List.map_cons, List.pairwise_cons]
      refine ⟨fun b hb => ?_, insQ_sorted x h.2⟩
      have := ((insQ_perm x r).map pcode).mem_iff.mp hb
      rcases List.mem_cons.mp this with rfl | hb
      · omega
      · exact h.1 b hb
theorem sortQ_sorted : ∀ l : List (Int × Int), ((sortQ l).map pcode).Pairwise (· ≤ ·)
  | [] => by simp [sortQ]
  | x :: r => insQ_sorted x (sortQ_sorted r)
theorem map_inj_on {l r : List (Int × Int)} (hl : ∀ p ∈ l, inP p = true) (hr : ∀ p ∈ r, inP p = true) (e : l.map pcode = r.map pcode) : l = r := by
  induction l generalizing r with
  | nil =>
    cases r with
    | nil => rfl
    | cons _ _ => simp at e
  | cons x l ih =>
    cases r with
    | nil => simp at e
    | cons y r =>
      rw [List.map_cons, List.map_cons, List.cons.injEq] at e
      rw [pcode_inj (hl x List.mem_cons_self) (hr y List.mem_cons_self) e.1, ih (fun p hp => hl p (List.mem_cons_of_mem _ hp)) (fun p hp => hr p (List.mem_cons_of_mem _ hp)) e.2]
theorem sortQ_unique {l r : List (Int × Int)} (hl : ∀ p ∈ l, inP p = true) (p : r.Perm l) (s : (r.map pcode).Pairwise (· ≤ ·)) : r = sortQ l := by
  have e : r.map pcode = (sortQ l).map pcode := sorted_unique ((p.trans (sortQ_perm l).symm).map pcode) s (sortQ_sorted l)
  exact map_inj_on (fun q hq => hl q (p.mem_iff.mp hq)) (fun q hq => hl q ((sortQ_perm l).mem_iff.mp hq)) e
theorem RepVs.perm {K : PySem.W.Frag} {ι β : List Addr} {H : Hp} {vs us : List V} (pm : us.Perm vs) : ∀ {l : List MV}, RepVs K ι β H l vs → ∃ l' : List MV, l'.Perm l ∧ RepVs K ι β H l' us := by
  induction pm with
  | nil => intro l h; exact ⟨l, .refl _, h⟩
  | @cons x us vs _ ih =>
    intro l h
    cases l with
    | nil => have := h.nil_iff; cases this
    | cons a l =>
      obtain ⟨v, r, e, q, t⟩ := h.cons_iff
      cases e
      obtain ⟨l', p', t'⟩ := ih t
      exact ⟨a :: l', p'.cons a, .cons q t'⟩
  | @swap x y vs =>
    intro l h
    cases l with
    | nil => have := h.nil_iff; cases this
    | cons a l =>
      obtain ⟨v, r, e, q, t⟩ := h.cons_iff
      cases e
      cases l with
      | nil => have := t.nil_iff; cases this
      | cons b l =>
        obtain ⟨v2, r2, e, q2, t2⟩ := t.cons_iff
        cases e
        exact ⟨b :: a :: l, .swap _ _ _, .cons q2 (.cons q t2)⟩
  | trans _ _ ih1 ih2 =>
    intro l h
    obtain ⟨l1, p1, h1⟩ := ih2 h
    obtain ⟨l2, p2, h2⟩ := ih1 h1
    exact ⟨l2, p2.trans p1, h2⟩
theorem RepVs.mem_of {K : PySem.W.Frag} {ι β : List Addr} {H : Hp} : ∀ {l : List MV} {vs : List V} {x : V}, RepVs K ι β H l vs → x ∈ vs → ∃ m ∈ l, RepV K ι β H m x
  | [], vs, x, h, hx => by rw [h.nil_iff] at hx; simp at hx
  | a :: l, vs, x, h, hx => by
    obtain ⟨v, r, rfl, q, t⟩ := h.cons_iff
    rcases List.mem_cons.mp hx with rfl | hx
    · exact ⟨a, List.mem_cons_self, q⟩
    · obtain ⟨m, hm, rm⟩ := t.mem_of hx
      exact ⟨m, List.mem_cons_of_mem _ hm, rm⟩
def unPr : MV → Int × Int
  | .tup [.int i, .int j] => (i, j)
  | _ => (0, 0)
theorem un_pr (p : Int × Int) : unPr (prM p) = p := rfl
theorem perm_prs {ps : List (Int × Int)} {l : List MV} (h : l.Perm (ps.map prM)) : ∃ qs : List (Int × Int), qs.Perm ps ∧ l = qs.map prM := by
  refine ⟨l.map unPr, ?_, ?_⟩
  · have := h.map unPr
    rw [List.map_map] at this
    have e : (unPr ∘ prM) = id := by funext p; rfl
    rw [e, List.map_id] at this
    exact this
  · rw [List.map_map]
    have : ∀ m ∈ l, (prM ∘ unPr) m = m := fun m hm => by
      obtain ⟨p, _, rfl⟩ := List.mem_map.mp (h.mem_iff.mp hm)
      rfl
    rw [List.map_congr_left this, List.map_id']
theorem pw_prs {c : C} {ι β : List Addr} {H : Hp} : ∀ {qs : List (Int × Int)} {ys : List V}, RepVs c.K ι β H (qs.map prM) ys → ys.Pairwise (fun x y => ∀ n m, TupI c.K H x n → TupI c.K H y m → TS.code 64 n ≤ TS.code 64 m) → (qs.map pcode).Pairwise (· ≤ ·)
  | [], ys, _, _ => by simp
  | q :: qs, ys, h, pw => by
    rw [List.map_cons] at h
    obtain ⟨v, r, rfl, rq, t⟩ := h.cons_iff
    rw [List.pairwise_cons] at pw
    rw [List.map_cons, List.pairwise_cons]
    refine ⟨fun b hb => ?_, pw_prs t pw.2⟩
    obtain ⟨p, hp, rfl⟩ := List.mem_map.mp hb
    obtain ⟨i, hi⟩ := List.mem_iff_getElem?.mp (List.mem_map.mpr ⟨p, hp, rfl⟩ : prM p ∈ qs.map prM)
    obtain ⟨u, eu, ru⟩ := t.get hi
    obtain ⟨a, rfl, sa⟩ := pr_rep rq
    obtain ⟨b, rfl, sb⟩ := pr_rep ru
    have := pw.1 _ (List.mem_of_getElem? eu) (toL q) (toL p) ⟨a, rfl, sa⟩ ⟨b, rfl, sb⟩
    show q.1 * 64 + q.2 ≤ p.1 * 64 + p.2
    rw [← code_pair, ← code_pair]
    exact this
def mSortQ (fin : List MV → MH → R MV) (as : List MV) (h : MH) : R MV := match as with
  | [a] => match asL a h with
    | some l => match prs? l with
      | some ps => if (decide (ps.length < 64) && ps.all inP) = true then fin ((sortQ ps).map prM) h else .bad
      | none => .bad
    | none => .bad
  | _ => .bad
section
variable {X : Cx} {c : C} {W : WX}
theorem p_sortQ {fin : List MV → MH → R MV} (hf : FinN c fin) : PN c (rSortU c.K 2 64) (mSortQ fin) := fun ι β H mh as xs Q W rel ra p => by
  unfold mSortQ at p
  split at p
  · rename_i a
    cases el : asL a mh with
    | none => simp only [el] at p; exact p.elim
    | some l =>
      simp only [el] at p
      cases ep : prs? l with
      | none => simp only [ep] at p; exact p.elim
      | some ps =>
        simp only [ep] at p
        split at p
        · rename_i ok
          simp only [Bool.and_eq_true, decide_eq_true_eq, List.all_eq_true] at ok
          obtain ⟨few, inn⟩ := ok
          obtain ⟨v, rfl, q⟩ := Vs1 ra
          obtain ⟨b, vs, rfl, sq, r⟩ := asL_rep el rel q
          have := prs?_eq ep
          subst this
          have hl : vs.length = ps.length := by rw [← r.length, List.length_map]
          refine ⟨b, vs, rfl, .inl (.inl sq), by omega, fun x hx => ?_, fun ys z pm pw hz => ?_⟩
          · obtain ⟨m, hm, rx⟩ := r.mem_of hx
            obtain ⟨pr, hpr, rfl⟩ := List.mem_map.mp hm
            obtain ⟨t, rfl, sqt⟩ := pr_rep rx
            have := inP_iff (inn pr hpr)
            exact ⟨toL pr, ⟨t, rfl, sqt⟩, rfl, fun m hm => by
              simp only [toL, List.mem_cons, List.not_mem_nil, or_false] at hm
              rcases hm with rfl | rfl <;> omega⟩
          · obtain ⟨l', pl, rl'⟩ := r.perm pm
            obtain ⟨qs, pq, rfl⟩ := perm_prs pl
            have e := sortQ_unique inn pq (pw_prs rl' pw)
            rw [e] at rl'
            exact hf _ _ _ _ _ _ _ _ _ rel rl' hz p
        · exact p.elim
  · exact p.elim
end
end MP

/-! Mirror layer: == and != of tuples that hold dicts. -/
namespace MP
open PySem PySem.Spec PyProof.Rows L2
section
open PySem.SeqAt
open AutoSeq1 (wpAny_loadPart')
open MeetsSeq MeetsSeq2 MeetsSeq3 SeqRoads2
variable {prog : Program} {w : World}
theorem tuple_neIn (l b : Addr) (items items2 : Array Value) (n n2 : Nat) (dd dd2 : Option Addr) (sl sl2 : Array (Option Value)) (e : Nat → Bool) :
    MeetsIn prog w (Builtin.«tuple.__ne__» ⟨[.ref l, .ref b], []⟩)
      (fun A R s => s.heap.get? l = some { cls := .type "tuple", dict := dd, data := .seq items n, slots := sl } ∧ s.heap.get? b = some { cls := .type "tuple", dict := dd2, data := .seq items2 n2, slots := sl2 } ∧
        (∀ j (h1 : j < items.size) (h2 : j < items2.size), EqIn prog w A.in1 s items[j] items2[j] (e j)) ∧
        R (.ok (.ret (.bool (!((List.range (min items.size items2.size)).all e && items.size == items2.size))))) s) :=
  .of_wp fun A R s h => by
    obtain ⟨hp, g, d, tk, os⟩ := s; obtain ⟨hl, hb, he, h⟩ := h
    have f2 := AutoSeq1.sub_tuple_tuple
    have hZ : (items.toList.zip items2.toList).length = min items.size items2.size := by simp
    wp_walk using wpAny_loadPart' hl, wpAny_loadPart' hb, wpAny_forIn_list _ (fun rest b s' => b.1 = none ∧ s' = ⟨hp, g, d, tk, os⟩ ∧ ∃ i, rest = (items.toList.zip items2.toList).drop i ∧
      R (.ok (.ret (.bool (!(((List.range (min items.size items2.size)).drop i).all e && items.size == items2.size))))) ⟨hp, g, d, tk, os⟩) _
    case turn =>
      rintro ⟨y, x⟩ rest b s' ⟨hb', rfl, i, hz, hR⟩
      have hlt : i < (items.toList.zip items2.toList).length := by
        rcases Nat.lt_or_ge i (items.toList.zip items2.toList).length with h' | h'
        · exact h'
        · rw [List.drop_of_length_le h'] at hz; cases hz
      have hm : i < min items.size items2.size := hZ ▸ hlt
      have h1 : i < items.size := Nat.lt_of_lt_of_le hm (Nat.min_le_left _ _)
      have h2 : i < items2.size := Nat.lt_of_lt_of_le hm (Nat.min_le_right _ _)
      rw [List.drop_eq_getElem_cons hlt] at hz
      injection hz with hyx hrest
      have hy : y = items[i] := by have := congrArg Prod.fst hyx; simpa using this
      have hx : x = items2[i] := by have := congrArg Prod.snd hyx; simpa using this
      subst hy hx
      have hd : (List.range (min items.size items2.size)).drop i = i :: (List.range (min items.size items2.size)).drop (i + 1) := by simp [List.drop_eq_getElem_cons, hm]
      rw [hd, List.all_cons] at hR
      refine wpAny_bind (he i h1 h2 _ _ ?_)
      cases hy : e i with
      | true =>
        rw [hy] at hR
        wp_walk
        exact ⟨rfl, rfl, i + 1, hrest, by simpa using hR⟩
      | false =>
        rw [hy] at hR
        wp_walk
        exact ⟨_, rfl, by simpa using hR⟩
    case fin =>
      rintro ⟨b1, b2⟩ s' ⟨hb', rfl, i, hz, hR⟩
      simp only at hb'
      subst hb'
      have hge : min items.size items2.size ≤ i := by
        rcases Nat.lt_or_ge i (items.toList.zip items2.toList).length with h' | h'
        · rw [List.drop_eq_getElem_cons h'] at hz; cases hz
        · exact hZ ▸ h'
      rw [List.drop_of_length_le (by simpa using hge)] at hR
      wp_walk
      exact ⟨_, rfl, by simpa [Builtin.Tuple.tupleCompareSizes, bne] using hR⟩
    case h =>
      exact ⟨rfl, rfl, 0, rfl, by simpa using h⟩
variable {A : Around} {s : Shared}
theorem rcNeIn_tuples {E : Value → Shared → Prop} {l b : Addr} {items items2 : Array Value} {e : Nat → Bool} {Q : Value → Shared → Prop} (hl : s.heap.IsTuple l items) (hb : s.heap.IsTuple b items2) (hu : A.units < cLine)
    (he : ∀ j (h1 : j < items.size) (h2 : j < items2.size), EqIn prog w A.in1 s items[j] items2[j] (e j)) (h : Q (.bool (!((List.range (min items.size items2.size)).all e && items.size == items2.size))) s) :
    wpAny (model prog w) A (richCompare .NotEq (.ref l) (.ref b)) Q E s := by
  obtain ⟨⟨cls, dd, data, sl⟩, ho, hc, n, hd⟩ := id hl
  obtain ⟨⟨cls2, dd2, data2, sl2⟩, ho2, hc2, n2, hd2⟩ := id hb
  simp only at hc hd hc2 hd2
  subst hc hd hc2 hd2
  exact wpAny_richCompare_same_room (T := "tuple") (op := .NotEq) ⟨_, ho, rfl⟩ ⟨_, ho2, rfl⟩ F.slot_tuple_ne (call_meetsIn F.slot_tuple_ne ⟨_, ho, rfl⟩ F.entry_tuple_ne (F.args_tuple_ne_2 _ _) (tuple_neIn l b items items2 n n2 dd dd2 sl sl2 e)
    ⟨ho, ho2, he, show Value.bool (!((List.range (min items.size items2.size)).all e && items.size == items2.size)) ≠ Value.notImplemented ∧ Q (.bool (!((List.range (min items.size items2.size)).all e && items.size == items2.size))) s from ⟨(fun x => nomatch x), h⟩⟩) hu
end
/-- two things within tuples, and whether they are equal -/
inductive EqPr (K : PySem.W.Frag) (H : Hp) : V → V → Bool → Prop
  | data {v u : V} {d e : PyData} : Dp K H v d → Dp K H u e → SeqAt.shaped d = true → SeqAt.shaped e = true → EqPr K H v u (PyData.eqv d e)
  | dict {a b : Addr} {ks ls : List (Key × V)} : Rd H a (.dK ks) → Rd H b (.dK ls) → ks.length = ls.length → HitsV K H ls ks true → EqPr K H (.ref a) (.ref b) true
inductive EqPrs (K : PySem.W.Frag) (H : Hp) : List V → List V → List Bool → Prop
  | nil : EqPrs K H [] [] []
  | cons {v u : V} {b : Bool} {vs us : List V} {bs : List Bool} : EqPr K H v u b → EqPrs K H vs us bs → EqPrs K H (v :: vs) (u :: us) (b :: bs)
theorem EqPrs.len {K : PySem.W.Frag} {H : Hp} {vs us : List V} {bs : List Bool} (h : EqPrs K H vs us bs) : vs.length = bs.length ∧ us.length = bs.length := by
  induction h with
  | nil => exact ⟨rfl, rfl⟩
  | cons _ _ ih => exact ⟨by rw [List.length_cons, List.length_cons, ih.1], by rw [List.length_cons, List.length_cons, ih.2]⟩
theorem EqPrs.at {K : PySem.W.Frag} {H : Hp} {vs us : List V} {bs : List Bool} (h : EqPrs K H vs us bs) : ∀ {j : Nat} {v u : V}, vs[j]? = some v → us[j]? = some u → EqPr K H v u (bs.getD j true) := by
  induction h with
  | nil => intro j v u e; simp at e
  | cons p _ ih =>
    intro j v u e1 e2
    cases j with
    | zero =>
      simp only [List.getElem?_cons_zero, Option.some.injEq] at e1 e2
      subst e1 e2
      exact p
    | succ j =>
      rw [List.getElem?_cons_succ] at e1 e2
      exact ih e1 e2
theorem vals_back' : ∀ {xs : List V} {us : List Value} {i : Nat} {u : Value}, Vals xs us → us[i]? = some u → ∃ x, xs[i]? = some x ∧ RelV x u
  | _, _, i, u, .nil, e => by simp at e
  | _, _, 0, u, .cons r _, e => by
    simp only [List.getElem?_cons_zero, Option.some.injEq] at e
    subst e
    exact ⟨_, rfl, r⟩
  | _, _, i + 1, u, .cons _ t, e => by
    rw [List.getElem?_cons_succ] at e
    obtain ⟨x, e1, r⟩ := vals_back' t e
    exact ⟨x, by rw [List.getElem?_cons_succ]; exact e1, r⟩
theorem all_range (bs : List Bool) : ((List.range bs.length).all fun j => bs.getD j true) = bs.all id := by
  rw [Bool.eq_iff_iff, List.all_eq_true, List.all_eq_true]
  constructor
  · intro h b hb
    obtain ⟨j, hj⟩ := List.mem_iff_getElem?.mp hb
    have lt := (List.getElem?_eq_some_iff.mp hj).1
    have := h j (List.mem_range.mpr lt)
    rw [List.getD_eq_getElem?_getD, hj] at this
    exact this
  · intro h j hj
    have lt := List.mem_range.mp hj
    rw [List.getD_eq_getElem?_getD, List.getElem?_eq_getElem lt]
    exact h _ (List.getElem_mem lt)
section
variable {X : Cx} {c : C}
theorem EqPr.inn {pins : List (Addr × Obj)} {σ : St} {H : Hp} {s : Shared} (I : Inv X pins σ H s) {A : Around} (hu : A.units + 65 < cLine) {x y : V} {b : Bool} (p : EqPr X.K H x y b) {v u : Value} (rx : RelV x v) (ry : RelV y u) : SeqAt.EqIn X.prog X.w A s v u b := by
  cases p with
  | data dv du sd se =>
    obtain ⟨as, r1⟩ := Dp.reads I _ _ v dv rx
    obtain ⟨bs, r2⟩ := Dp.reads I _ _ u du ry
    obtain ⟨c1, d1⟩ := shaped_lay sd
    obtain ⟨c2, d2⟩ := shaped_lay se
    exact SeqAt.EqAt.inModel (SeqAt.eqAt_reads _ _ A s v u as bs r1 r2 c1 c2 (by omega)) _ _
  | @dict a b ks ls ea eb hl hits =>
    obtain rfl : v = Value.ref a := rx
    obtain rfl : u = Value.ref b := ry
    by_cases z : a = b
    · subst z
      exact SeqAt.EqAt.inModel (SeqAt.EqAt.same _) _ _
    · obtain ⟨_, ya, va, ra, da⟩ := dk_rd I.hok ea
      obtain ⟨_, yb, vb, rb, db⟩ := dk_rd I.hok eb
      have hlv : (va.length == vb.length) = true := by rw [← ra.length, ← rb.length, hl]; simp
      exact SeqAt.EqIn.of_refs z fun E Q hq => PySem.W.keq_eq (knd := mixKind X.prog X.w) (r := true) ya yb da db (by omega) (fun _ => hits_at I (by show A.units + 1 + 64 < cLine; omega) rb hits ra) (by rw [hlv]; exact hq)
def rEqT (K : PySem.W.Frag) (neg : Bool) : R2 := fun x y H Q => ∃ a b xs ys rs, x = .ref a ∧ y = .ref b ∧ SqT K H a xs ∧ SqT K H b ys ∧ EqPrs K H xs ys rs ∧ Q (.bl (if neg then !rs.all id else rs.all id)) H
theorem op_eqT (hu : X.A.units + 67 < cLine) : OpR X (compareOp .Eq) (rEqT X.K false) := by
  intro pins s σ H x y v u Q I rx ry h
  obtain ⟨a, b, xs, ys, rs, rfl, rfl, ea, eb, pr, q⟩ := h
  obtain rfl : v = Value.ref a := rx
  obtain rfl : u = Value.ref b := ry
  obtain ⟨ia, ra, ta, _⟩ := I.tuple ea
  obtain ⟨ib, rb, tb, _⟩ := I.tuple eb
  obtain ⟨l1, l2⟩ := pr.len
  have n1 : ia.length = rs.length := by rw [← ra.length, l1]
  have n2 : ib.length = rs.length := by rw [← rb.length, l2]
  refine PySem.SeqAt.rcIn_tuples (e := fun j => rs.getD j true) ta tb (by omega) (fun j h1 h2 => ?_) ?_
  · have h1' : j < ia.length := by simpa using h1
    have h2' : j < ib.length := by simpa using h2
    obtain ⟨xv, e1, r1⟩ := vals_back' ra (List.getElem?_eq_getElem h1')
    obtain ⟨yv, e2, r2⟩ := vals_back' rb (List.getElem?_eq_getElem h2')
    have := (pr.at e1 e2).inn I (A := X.A.in1) (by show X.A.units + 1 + 65 < cLine; omega) r1 r2
    simpa using this
  · have e : ((List.range (min ia.toArray.size ib.toArray.size)).all (fun j => rs.getD j true) && ia.toArray.size == ib.toArray.size) = rs.all id := by
      rw [List.size_toArray, List.size_toArray, n1, n2, Nat.min_self, all_range]; simp
    rw [e]
    exact ⟨.bl _, H, I, rfl, q⟩
theorem op_neT (hu : X.A.units + 67 < cLine) : OpR X (compareOp .NotEq) (rEqT X.K true) := by
  intro pins s σ H x y v u Q I rx ry h
  obtain ⟨a, b, xs, ys, rs, rfl, rfl, ea, eb, pr, q⟩ := h
  obtain rfl : v = Value.ref a := rx
  obtain rfl : u = Value.ref b := ry
  obtain ⟨ia, ra, ta, _⟩ := I.tuple ea
  obtain ⟨ib, rb, tb, _⟩ := I.tuple eb
  obtain ⟨l1, l2⟩ := pr.len
  have n1 : ia.length = rs.length := by rw [← ra.length, l1]
  have n2 : ib.length = rs.length := by rw [← rb.length, l2]
  refine rcNeIn_tuples (e := fun j => rs.getD j true) ta tb (by omega) (fun j h1 h2 => ?_) ?_
  · have h1' : j < ia.length := by simpa using h1
    have h2' : j < ib.length := by simpa using h2
    obtain ⟨xv, e1, r1⟩ := vals_back' ra (List.getElem?_eq_getElem h1')
    obtain ⟨yv, e2, r2⟩ := vals_back' rb (List.getElem?_eq_getElem h2')
    have := (pr.at e1 e2).inn I (A := X.A.in1) (by show X.A.units + 1 + 65 < cLine; omega) r1 r2
    simpa using this
  · have e : ((List.range (min ia.toArray.size ib.toArray.size)).all (fun j => rs.getD j true) && ia.toArray.size == ib.toArray.size) = rs.all id := by
      rw [List.size_toArray, List.size_toArray, n1, n2, Nat.min_self, all_range]; simp
    rw [e]
    exact ⟨.bl _, H, I, rfl, q⟩
/-! the mirror's look -/
def eqPrM (h : MH) (a b : MV) : Option Bool := match toD h 12 a, toD h 12 b with
  | some d, some e => if (SeqAt.shaped d && SeqAt.shaped e) = true then some (PyData.eqv d e) else none
  | _, _ => match asD a h, asD b h with
    | some ks, some ls => if ks.length = ls.length then match hitsM h ls ks with
        | some true => some true
        | _ => none
      else none
    | _, _ => none
def eqPrsM (h : MH) : List MV → List MV → Option (List Bool)
  | [], [] => some []
  | a :: l, b :: r => match eqPrM h a b with
    | none => none
    | some x => match eqPrsM h l r with
      | none => none
      | some bs => some (x :: bs)
  | _, _ => none
def eqTM (neg : Bool) (a b : MV) (h : MH) : R MV := match a, b with
  | .tup l, .tup r => match eqPrsM h l r with
    | some rs => .ok (.bl (if neg then !rs.all id else rs.all id)) h
    | none => .bad
  | _, _ => .bad
theorem eqPr_rep {ι β : List Addr} {H : Hp} {mh : MH} (rel : Rel c ι β H mh) {a b : MV} {x y : V} {k : Bool} (e : eqPrM mh a b = some k) (ra : RepV c.K ι β H a x) (rb : RepV c.K ι β H b y) : EqPr c.K H x y k := by
  have dk : (match asD a mh, asD b mh with
    | some ks, some ls => if ks.length = ls.length then match hitsM mh ls ks with
        | some true => some true
        | _ => none
      else none
    | _, _ => none) = some k → EqPr c.K H x y k := fun e => by
    cases e1 : asD a mh with
    | none => simp only [e1] at e; cases e
    | some ks =>
      cases e2 : asD b mh with
      | none => simp only [e1, e2] at e; cases e
      | some ls =>
        simp only [e1, e2] at e
        split at e
        · rename_i hl
          split at e
          · rename_i hh
            cases e
            obtain ⟨a1, kl, o1, rfl, h1, iv1, r1⟩ := asD_rep e1 rel ra
            obtain ⟨a2, ll, o2, rfl, h2, iv2, r2⟩ := asD_rep e2 rel rb
            have n1 : kl.length = ks.length := r1.length.symm
            have n2 : ll.length = ls.length := r2.length.symm
            exact .dict (rd_of_dv h1 iv1) (rd_of_dv h2 iv2) (by omega) (hits_rep rel r2 hh r1)
          · cases e
        · cases e
  unfold eqPrM at e
  cases e1 : toD mh 12 a with
  | none => simp only [e1] at e; exact dk e
  | some d =>
    cases e2 : toD mh 12 b with
    | none => simp only [e1, e2] at e; exact dk e
    | some d2 =>
      simp only [e1, e2] at e
      split at e
      · rename_i sh
        rw [Bool.and_eq_true] at sh
        cases e
        exact .data (toD_dp rel _ _ _ _ e1 ra) (toD_dp rel _ _ _ _ e2 rb) sh.1 sh.2
      · cases e
theorem eqPrs_rep {ι β : List Addr} {H : Hp} {mh : MH} (rel : Rel c ι β H mh) : ∀ {l r : List MV} {xs ys : List V} {bs : List Bool}, eqPrsM mh l r = some bs → RepVs c.K ι β H l xs → RepVs c.K ι β H r ys → EqPrs c.K H xs ys bs
  | [], [], xs, ys, bs, e, h1, h2 => by
    rw [h1.nil_iff, h2.nil_iff]
    cases e
    exact .nil
  | a :: l, b :: r, xs, ys, bs, e, h1, h2 => by
    obtain ⟨v, vs, rfl, q1, t1⟩ := h1.cons_iff
    obtain ⟨u, us, rfl, q2, t2⟩ := h2.cons_iff
    unfold eqPrsM at e
    cases e1 : eqPrM mh a b with
    | none => simp only [e1] at e; cases e
    | some k =>
      simp only [e1] at e
      cases e2 : eqPrsM mh l r with
      | none => simp only [e2] at e; cases e
      | some bs' =>
        simp only [e2, Option.some.injEq] at e
        subst e
        exact .cons (eqPr_rep rel e1 q1 q2) (eqPrs_rep rel e2 t1 t2)
  | [], _ :: _, _, _, _, e, _, _ => by unfold eqPrsM at e; cases e
  | _ :: _, [], _, _, _, e, _, _ => by unfold eqPrsM at e; cases e
theorem p_eqTM (neg : Bool) : P2 c (rEqT c.K neg) (eqTM neg) := fun ι β H mh a b x y Q W rel ra rb p => by
  unfold eqTM at p
  split at p
  · rename_i l r
    split at p
    · rename_i rs e
      obtain ⟨a1, xs, rfl, s1, r1⟩ := ra.tup_iff
      obtain ⟨a2, ys, rfl, s2, r2⟩ := rb.tup_iff
      exact ⟨a1, a2, xs, ys, rs, rfl, rfl, s1, s2, eqPrs_rep rel e r1 r2, p ι H _ .refl rel (rbl _ _ _)⟩
    · exact p.elim
  · exact p.elim
/-- with all these -/
def mEqB (a b : MV) (h : MH) : R MV := orB (mEqA a b h) (eqTM false a b h)
def mNeB (a b : MV) (h : MH) : R MV := orB (mNeA a b h) (eqTM true a b h)
def rEqAllT (K : PySem.W.Frag) : R2 := fun x y H Q => rEqAll K x y H Q ∨ rEqT K false x y H Q
def rNeAllT (K : PySem.W.Frag) : R2 := fun x y H Q => rNeAll K x y H Q ∨ rEqT K true x y H Q
theorem op_eqXT (hu : X.A.units + 67 < cLine) : OpR X (compareOp .Eq) (rEqAllT X.K) := (op_eqX (by omega)).or (op_eqT hu)
theorem op_neXT (hu : X.A.units + 67 < cLine) : OpR X (compareOp .NotEq) (rNeAllT X.K) := (op_neX (by omega)).or (op_neT hu)
theorem p_eqXT : P2 c (rEqAllT c.K) mEqB := P2.orB p_eqX (p_eqTM false)
theorem p_neXT : P2 c (rNeAllT c.K) mNeB := P2.orB p_neX (p_eqTM true)
end
end MP

/-! Mirror layer: repr of a dict with whole numbers or texts as keys, its values flat. -/
namespace MP
open PySem PySem.Spec PyProof.Rows PyProof.V L2
def encK : Key → PyData
  | .inl i => .int i
  | .inr x => .str x
mutual
def noL : PyData → Bool
  | .list _ => false
  | .dict _ => false
  | .tuple xs => noLs xs
  | .none => true
  | .bool _ => true
  | .int _ => true
  | .str _ => true
def noLs : List PyData → Bool
  | [] => true
  | x :: xs => noL x && noLs xs
end
mutual
theorem noL_dict : ∀ {d : PyData}, noL d = true → d.hasDict = false
  | .none, _ => by rw [PyData.hasDict]
  | .bool _, _ => by rw [PyData.hasDict]
  | .int _, _ => by rw [PyData.hasDict]
  | .str _, _ => by rw [PyData.hasDict]
  | .list _, h => by rw [noL] at h; cases h
  | .dict _, h => by rw [noL] at h; cases h
  | .tuple xs, h => by rw [noL] at h; rw [PyData.hasDict]; exact noLs_dict h
theorem noLs_dict : ∀ {ds : List PyData}, noLs ds = true → PyData.hasDictAll ds = false
  | [], _ => by rw [PyData.hasDictAll]
  | d :: ds, h => by
    rw [noLs, Bool.and_eq_true] at h
    rw [PyData.hasDictAll, noL_dict h.1, noLs_dict h.2]; rfl
end
mutual
theorem reads_noL {h : Heap} : ∀ {d : PyData} {v : Value} {as : List Addr}, noL d = true → Reads h v d as → as = []
  | .none, _, _, _, r => by cases r; rfl
  | .bool _, _, _, _, r => by cases r; rfl
  | .int _, _, _, _, r => by cases r; rfl
  | .str _, _, _, _, r => by cases r; rfl
  | .list _, _, _, n, _ => by rw [noL] at n; cases n
  | .dict _, _, _, n, _ => by rw [noL] at n; cases n
  | .tuple xs, _, _, n, r => by
    rw [noL] at n
    cases r with
    | tuple _ _ _ h4 => exact readsAll_noL n h4
theorem readsAll_noL {h : Heap} : ∀ {ds : List PyData} {vs : List Value} {as : List Addr}, noLs ds = true → ReadsAll h vs ds as → as = []
  | [], _, _, _, r => by cases r; rfl
  | d :: ds, _, _, n, r => by
    rw [noLs, Bool.and_eq_true] at n
    cases r with
    | cons r1 r2 => rw [reads_noL n.1 r1, readsAll_noL n.2 r2]; rfl
end
inductive DpKV (K : PySem.W.Frag) (H : Hp) : List (Key × V) → List (PyData × PyData) → Prop
  | nil : DpKV K H [] []
  | cons {k : Key} {v : V} {d : PyData} {kvs : List (Key × V)} {D : List (PyData × PyData)} : Dp K H v d → noL d = true → DpKV K H kvs D → DpKV K H ((k, v) :: kvs) ((encK k, d) :: D)
section
variable {X : Cx} {c : C}
theorem DpKV.pairs {pins : List (Addr × Obj)} {σ : St} {H : Hp} {s : Shared} (I : Inv X pins σ H s) {kvs : List (Key × V)} {D : List (PyData × PyData)} (dp : DpKV X.K H kvs D) : ∀ {va : List (Key × Value)}, KV kvs va → PairsRead s.heap encK va D [] := by
  induction dp with
  | nil => intro va h; cases h; exact .nil
  | @cons k v d kvs D dv n _ ih =>
    intro va h
    cases h with
    | @cons p q ps qs h t =>
      obtain ⟨key, w⟩ := q
      obtain ⟨h1, h2⟩ := h
      have h1 : k = key := h1
      subst h1
      obtain ⟨as, r⟩ := Dp.reads I d v w dv h2
      have e := reads_noL n r
      subst e
      exact PairsRead.cons r (ih t)
theorem key_reads {P : Program} {w : World} (h : Heap) : ∀ k key, (mixKind P w).is k key = true → Reads h key (encK k) [] := fun k key e => by
  rcases keyIs_shape e with ⟨i, t, rfl, rfl⟩ | ⟨x, t, rfl, rfl⟩
  · exact Reads.int i t
  · exact Reads.str x t
theorem reads_dict {pins : List (Addr × Obj)} {σ : St} {H : Hp} {s : Shared} (I : Inv X pins σ H s) {a : Addr} {kvs : List (Key × V)} {D : List (PyData × PyData)} (ea : Rd H a (.dK kvs)) (dp : DpKV X.K H kvs D) : ∃ as, Reads s.heap (.ref a) (.dict D) as ∧ sysModules ∉ as := by
  obtain ⟨_, ya, va, ra, da⟩ := dk_rd I.hok ea
  obtain ⟨o, es, ep, h1, h2, h3, h4, h5, h6⟩ := da
  obtain ⟨r1, r2⟩ := readsAll_of_pairs (key_reads s.heap) h5 (dp.pairs I ra)
  refine ⟨_, Reads.dict h1 h2.1 h3 r1 r2, ?_⟩
  intro m
  have : sysModules = a := by simpa using m
  rw [← this] at ya
  simp at ya
def bndKv : List (PyData × PyData) → Nat
  | [] => 0
  | (k, v) :: r => bnd k + 2 + bnd v + 2 + bndKv r
def okKv : List (PyData × PyData) → Bool
  | [] => true
  | (k, v) :: r => !k.hasDict && !v.hasDict && okKv r
theorem shownKv_le : ∀ {D : List (PyData × PyData)}, PyData.showableKv D = true → okKv D = true → piled (PyData.shownKv D) ≤ bndKv D
  | [], _, _ => by rw [PyData.shownKv, bndKv]; exact Nat.le_refl _
  | (k, v) :: r, h, n => by
    rw [PyData.showableKv, Bool.and_eq_true, Bool.and_eq_true] at h
    rw [okKv, Bool.and_eq_true, Bool.and_eq_true, Bool.not_eq_true', Bool.not_eq_true'] at n
    rw [PyData.shownKv, bndKv, piled_cons]
    have h1 := shown_le h.1.1 n.1.1
    have h2 := shown_le h.1.2 n.1.2
    have h3 := shownKv_le h.2 n.2
    rw [strLen_append, strLen_append]
    have e : ((": " : String) : Str).length = 2 := rfl
    omega
theorem dictText_le (ts : List Str) : (dictText ts).length ≤ piled ts + 2 := by
  unfold dictText
  rw [strLen_append, strLen_append]
  have e1 : (("{" : String) : Str).length = 1 := rfl
  have e2 : (("}" : String) : Str).length = 1 := rfl
  cases ts with
  | nil => have : (Str.join ", " ([] : List Str)).length = 0 := rfl; omega
  | cons t r =>
    have := join_length_add (t :: r) (by simp)
    omega
def okRD (D : List (PyData × PyData)) : Bool := PyData.showableKv D && okKv D && decide ((PyData.dict D).depth ≤ 60) && decide (bndKv D ≤ 16000000)
theorem okRD_iff {D : List (PyData × PyData)} : okRD D = true ↔ PyData.showableKv D = true ∧ okKv D = true ∧ (PyData.dict D).depth ≤ 60 ∧ bndKv D ≤ 16000000 := by
  unfold okRD
  simp only [Bool.and_eq_true, decide_eq_true_eq, and_assoc]
def rReprK (K : PySem.W.Frag) : List V → Hp → VK → Prop := fun vs H Q => ∃ a kvs D, vs = [.ref a] ∧ Rd H a (.dK kvs) ∧ DpKV K H kvs D ∧ okRD D = true ∧ Q (.str (PyData.dict D).shown) H
theorem cr_reprK (hg : X.A.guards = some []) (hu : X.A.units + 65 < cLine) : CallR X (.builtin "repr") (rReprK X.K) := by
  intro pins s σ H vs us Q I r h
  obtain ⟨a, kvs, D, rfl, ea, dp, ok, q⟩ := h
  obtain ⟨o1, o2, o3, o4⟩ := okRD_iff.mp ok
  have hz : (PyData.dict D).shown.length ≤ sizeLine := by
    rw [PyData.shown]
    refine Nat.le_trans (Nat.le_trans (dictText_le _) (Nat.add_le_add_right (shownKv_le o1 o2) 2)) ?_
    rw [sizeLine_eq]; omega
  obtain ⟨u, rfl, rv⟩ : ∃ u, us = [u] ∧ RelV (.ref a) u := by
    cases r with
    | cons a b => cases b; exact ⟨_, rfl, a⟩
  obtain rfl : u = Value.ref a := rv
  obtain ⟨as, rd, hsm⟩ := reads_dict I ea dp
  exact repr_of_reads' rd (by rw [PyData.showable]; exact o1) (fun _ => hsm) hg (by omega) (fun _ _ e => e) (fun h' u tk hk => ⟨.str _, H, I.kept (t' := tk) hk, ⟨_, rfl⟩, q⟩) hz
def kvD (h : MH) : List (MV × MV) → Option (List (PyData × PyData))
  | [] => some []
  | (k, m) :: r => match mkey k with
    | none => none
    | some kk => match toD h 12 m with
      | none => none
      | some d => if noL d = true then match kvD h r with
          | none => none
          | some D => some ((encK kk, d) :: D)
        else none
def mReprK (as : List MV) (h : MH) : R MV := match as with
  | [a] => match asD a h with
    | some kvs => match kvD h kvs with
      | some D => if okRD D = true then .ok (.str (PyData.dict D).shown) h else .bad
      | none => .bad
    | none => .bad
  | _ => .bad
theorem kvD_rep {ι β : List Addr} {H : Hp} {mh : MH} (rel : Rel c ι β H mh) : ∀ {l : List (MV × MV)} {kv : List (Key × V)} {D : List (PyData × PyData)}, kvD mh l = some D → RepKV c.K ι β H l kv → DpKV c.K H kv D
  | [], kv, D, e, h => by
    have h : kv = [] := h
    subst h
    cases e
    exact .nil
  | (k, m) :: l, kv, D, e, h => by
    obtain ⟨k', v, kv', rfl, ek, rv, t⟩ := h
    unfold kvD at e
    simp only [ek] at e
    cases ed : toD mh 12 m with
    | none => simp only [ed] at e; cases e
    | some d =>
      simp only [ed] at e
      split at e
      · rename_i n
        cases er : kvD mh l with
        | none => simp only [er] at e; cases e
        | some D' =>
          simp only [er, Option.some.injEq] at e
          subst e
          exact .cons (toD_dp rel _ _ _ _ ed rv) n (kvD_rep rel er t)
      · cases e
theorem p_reprK : PN c (rReprK c.K) mReprK := fun ι β H mh as xs Q W rel ra p => by
  unfold mReprK at p
  split at p
  · rename_i a
    cases ea : asD a mh with
    | none => simp only [ea] at p; exact p.elim
    | some kvs =>
      simp only [ea] at p
      cases ek : kvD mh kvs with
      | none => simp only [ek] at p; exact p.elim
      | some D =>
        simp only [ek] at p
        split at p
        · rename_i ok
          obtain ⟨v, rfl, q⟩ := Vs1 ra
          obtain ⟨d, l, o, rfl, hd, iv, r⟩ := asD_rep ea rel q
          exact ⟨d, l, D, rfl, rd_of_dv hd iv, kvD_rep rel ek r, ok, p ι H _ .refl rel (by unfold RepV; rfl)⟩
        · exact p.elim
  · exact p.elim
def mReprA (as : List MV) (h : MH) : R MV := orB (mRepr as h) (mReprK as h)
theorem cr_reprA (hg : X.A.guards = some []) (hu : X.A.units + 65 < cLine) : CallR X (.builtin "repr") (fun vs H Q => rReprD X.K vs H Q ∨ rReprK X.K vs H Q) := (cr_repr hg hu).or (cr_reprK hg hu)
theorem PN.orB {r1 r2 : List V → Hp → VK → Prop} {f g : List MV → MH → R MV} (h1 : PN c r1 f) (h2 : PN c r2 g) : PN c (fun x H Q => r1 x H Q ∨ r2 x H Q) (fun a h => MP.orB (f a h) (g a h)) := fun ι β H mh a x Q W rel ra p => by
  have p : Post c ι β H (RV c) Q W (MP.orB (f a mh) (g a mh)) := p
  cases e : f a mh with
  | bad => rw [e] at p; exact .inr (h2 ι β H mh a x Q W rel ra p)
  | ok v h => rw [e] at p; exact .inl (h1 ι β H mh a x Q W rel ra (by rw [e]; exact p))
  | ex y h => rw [e] at p; exact .inl (h1 ι β H mh a x Q W rel ra (by rw [e]; exact p))
theorem p_reprA : PN c (fun vs H Q => rReprD c.K vs H Q ∨ rReprK c.K vs H Q) mReprA := PN.orB p_repr p_reprK
end
end MP

/-! Mirror layer: {} as a value; d.get(k, x); dict(a list of pairs); len of a dict. -/
namespace MP
open PySem PySem.Spec PyProof.Rows L2
section
variable {X : Cx} {c : C} {W : WX} {pos : Pos}
theorem hu67 {k : Nat} {A : Around} (hr : RoomG k A) : A.units + 67 < cLine := by have := hr.un; omega
def mDictV : EM := fun _ h => finDV [] h
theorem e_dictV : PE X (.Dict [] [] pos) (tE c W mDictV) :=
  pe_dnewK.wk fun σ H Q ⟨ι, β, mh, σm, rel, rl, p⟩ => fun q hq => finND_V ι β H mh [] [] q Q _ rel rfl hq p
def m3D (f : MV → MV → MV → MH → R MV) (ra rb rc : EM) : EM := fun σ h => bindR (ra σ h) fun a h1 => if isDk a h1 = true then bindR (rb σ h1) fun b h2 => bindR (rc σ h2) fun d h3 => f a b d h3 else .bad
def mDGet2 (a b d : MV) (h : MH) : R MV := match asD a h with
  | some kvs => match mkey b with
    | some _ => .ok ((lookKV kvs b).getD d) h
    | none => .bad
  | none => .bad
theorem e_dget2 {o e g : Expr} {ro re rg : EM} {apos cpos : Pos} (hu : X.A.units + 1 < cLine) (ho : PE X o (tE c W ro)) (he : PE X e (tE c W re)) (hg : PE X g (tE c W rg)) (m : M2 X o "get" apos e g cpos) : PE X (.Call (.Attribute o "get" apos) [e, g] [] cpos) (tE c W (m3D mDGet2 ro re rg)) :=
  (pe_dget2 hu ho he hg m).wk fun σ H Q ⟨ι, β, mh, σm, rel, rl, p⟩ => by
    refine (run1 rel rl p).mono fun x H1 ⟨ι1, mh1, v, f1, rel1, rl1, rv, p1⟩ => ?_
    split at p1
    · rename_i ed
      obtain ⟨a, rfl, isd⟩ := isD_of ed rel1 rv
      refine ⟨a, rfl, isd, ?_⟩
      refine (run1 rel1 rl1 p1).mono fun y H2 ⟨ι2, mh2, b, f2, rel2, rl2, rb, p2⟩ => ?_
      refine (run1 rel2 rl2 p2).mono fun z H3 ⟨ι3, mh3, d, f3, rel3, rl3, rd, p3⟩ => ?_
      unfold mDGet2 at p3
      cases ek : asD v mh3 with
      | none => simp only [ek] at p3; exact p3.elim
      | some kvs =>
        simp only [ek] at p3
        cases eb : mkey b with
        | none => simp only [eb] at p3; exact p3.elim
        | some kk =>
          simp only [eb] at p3
          obtain ⟨a', l, ob, ea, hob, iv, rk⟩ := asD_rep ek rel3 (rv.mono (f2.trans f3))
          cases ea
          have := mkey_rep eb (rb.mono f3)
          subst this
          refine ⟨valV l kk, dget_of hob iv kk, ?_⟩
          obtain ⟨i1, i2⟩ := look_rep eb rk
          cases el : lookKV kvs b with
          | none =>
            rw [el] at p3
            rw [i2 el]
            exact p3 ι3 H3 z .refl rel3 rd
          | some w =>
            rw [el] at p3
            obtain ⟨vv, e1, rw'⟩ := i1 w el
            rw [e1]
            exact p3 ι3 H3 vv .refl rel3 rw'
    · exact p1.elim
def mDictP (fin : List (MV × MV) → MH → R MV) (as : List MV) (h : MH) : R MV := match as with
  | [a] => match asL a h with
    | some l => match kvs? l with
      | some more => fin (putAll [] more) h
      | none => .bad
    | none => .bad
  | _ => .bad
theorem p_dictP {fin : List (MV × MV) → MH → R MV} (hf : FinND c fin) : PN c (fun xs H Q => ∃ (a : Addr) (ps : List Addr) (kvs : List (Key × V)), xs = [.ref a] ∧ SqL c.K H a (ps.map V.ref) ∧ Paired (fun p kv => SqT c.K H p [kV kv.1, kv.2]) ps kvs ∧
    ∀ p, H p = none → Q (.ref p) (upd H p (.dK (mergeK [] kvs)))) (mDictP fin) := fun ι β H mh as xs Q W rel ra p => by
  unfold mDictP at p
  split at p
  · rename_i a
    cases el : asL a mh with
    | none => simp only [el] at p; exact p.elim
    | some l =>
      simp only [el] at p
      cases em : kvs? l with
      | none => simp only [em] at p; exact p.elim
      | some more =>
        simp only [em] at p
        obtain ⟨w, rfl, qw⟩ := Vs1 ra
        obtain ⟨la, us, rfl, sq, ru⟩ := asL_rep el rel qw
        obtain ⟨ps, km, rfl, pp, rkm, hlen⟩ := kvs_rep em ru
        exact ⟨la, ps, km, rfl, .inl (.inl sq), pp, fun z hz => hf _ _ _ _ _ _ _ _ _ rel (put_all rkm (show RepKV c.K ι β H [] [] from rfl) rfl) hz p⟩
  · exact p.elim
/-- len of a dict that may change -/
def mLenD (as : List MV) (h : MH) : R MV := match as with
  | [.ref n] => match h[n]? with
    | some (.dct l) => .ok (.int l.length) h
    | _ => .bad
  | _ => .bad
theorem p_lenD : PN c (fun xs H Q => ∃ a kvs, xs = [V.ref a] ∧ H a = some (.dK kvs) ∧ Q (.int kvs.length) H) mLenD := fun ι β H mh as xs Q W rel ra p => by
  unfold mLenD at p
  split at p
  · rename_i n
    split at p
    · rename_i l eo
      obtain ⟨v, rfl, q⟩ := Vs1 ra
      unfold RepV at q
      obtain ⟨b, rfl, ea⟩ := q
      obtain ⟨o2, e2, ro⟩ := rel.at ea
      rw [eo] at e2; cases e2
      obtain ⟨kl, hb, rk⟩ := ro
      exact ⟨b, kl, rfl, hb, by rw [← rk.length]; exact p ι H _ .refl rel (rint _ _ _)⟩
    · exact p.elim
  · exact p.elim
end
end MP

/-! printed by gen.py: the mirror of law_k12_what_tables_say -/
namespace MP
open PySem PySem.Spec PyProof.Rows L2
def c_MOST_ADDRESS : EM := mC (.int 31)
def c_STRETCH : EM := mC (.int 4)
def g_kb_can_be_great_0 : List MV → List MV := fun as => match as with | [a0] => [a0] | _ => []
def g_kb_covered_0 : List MV → List MV := fun as => match as with | [a0] => [a0] | _ => []
def g_kb_same_said_10 : List MV → List MV := fun as => match as with | [a0, a1] => [a1, a0] | _ => []
def le_parts_of_0 : EM :=
  (mN mkTup (mCons (m2 (mAdd finV) (mVar 0) (mVar 6)) (mCons (mN mkTup (mCons (m2 (mAdd finV) (mVar 3) (mVar 6)) (mCons (mVar 4) mNil))) mNil)))
def mb_parts_of : SM :=
  (sSeq (sAsg (mVar 1) (gmTup (gmCons (gmName 2) (gmCons (gmName 3) (gmCons (gmName 4) gmNil))) 3))
  (sSeq (sSet 5 (mIf (mB (m2 mEqA (mVar 2) (mC (.str (Str.ofString "great"))))) c_STRETCH (mC (.int 1))))
  (sRet (mLc (fun σ h => bindR ((mCons (mVar 5) mNil) σ h) itR1) (.nm 6) mYes le_parts_of_0 [6] finR))))
def m_parts_of : List MV → MH → R MV := fnM 7 mb_parts_of
def li_covered_0 : IM :=
  (iL (mN (cF 2 m_parts_of) (mCons (mVar 1) (mCons (mVar 2) mNil))))
def le_covered_0 : EM :=
  (mVar 3)
def le_covered_1 : EM :=
  (mVar 4)
def mb_covered : SM :=
  (sRet (mDc2 (iI (mVar 0)) (.tp [.nm 1, .nm 2]) li_covered_0 (.tp [.nm 3, .nm 4]) le_covered_0 le_covered_1 [1, 2, 3, 4] [3, 4] finDR))
def m_covered : List MV → MH → R MV := fnM 5 mb_covered
def mb_same_said : SM :=
  (sRet (m2 mEqA (mN (cF 1 m_covered) (mCons (mVar 0) mNil)) (mN (cF 1 m_covered) (mCons (mVar 1) mNil))))
def m_same_said : List MV → MH → R MV := fnM 2 mb_same_said
def le_fits_great_0 : EM :=
  (m2 mEqA (m3o (mSl finV) (mVar 6) (oSome (mC (.int 1))) oNone) (mN mkTup (mCons (m2 (mAdd finV) (mVar 3) (mVar 5)) (mCons (mVar 4) mNil))))
def le_fits_great_1 : EM :=
  (m2 mEqA (m2 mIxA (mVar 6) (mC (.int 0))) (mC (.str (Str.ofString "small"))))
def le_fits_great_2 : EM :=
  (m2D mDGet1 (mVar 0) (m2 (mAdd finV) (mVar 1) (mVar 5)))
def mb_fits_great : SM :=
  (sSeq (sSet 2 (mLc (fun σ h => bindR ((mCons c_STRETCH mNil) σ h) itR1) (.nm 5) mYes le_fits_great_2 [5] finV))
  (sSeq (sIf (mOr (mB (m2 mIn (mC .non) (mVar 2))) (mNot (mTru (mN mAll (mCons (mLc (iL (mVar 2)) (.nm 6) mYes le_fits_great_1 [6] finV) mNil)))))
  (sRet (mC (.bl false)))
  sNil)
  (sSeq (sAsg (m3o (mSl finV) (m2 mIxA (mVar 2) (mC (.int 0))) (oSome (mC (.int 1))) oNone) (gmTup (gmCons (gmName 3) (gmCons (gmName 4) gmNil)) 2))
  (sSeq (sIf (mB (m2 mNeA (m2 mModI (mVar 3) c_STRETCH) (mC (.int 0))))
  (sRet (mC (.bl false)))
  sNil)
  (sRet (mN mAll (mCons (mLc (iE (mCons (mVar 2) mNil)) (.tp [.nm 5, .nm 6]) mYes le_fits_great_0 [5, 6] finV) mNil)))))))
def m_fits_great : List MV → MH → R MV := fnM 7 mb_fits_great
def lt_can_be_great_0 : TM :=
  (mTru (mN (cF 2 m_fits_great) (mCons (mVar 0) (mCons (mVar 1) mNil))))
def le_can_be_great_0 : EM :=
  (mVar 1)
def mb_can_be_great : SM :=
  (sRet (mLc (fun σ h => bindR ((mCons (mC (.int 0)) (mCons (m2 (mAdd finV) c_MOST_ADDRESS (mC (.int 1))) (mCons c_STRETCH mNil))) σ h) itR3) (.nm 1) lt_can_be_great_0 le_can_be_great_0 [1] finR))
def m_can_be_great : List MV → MH → R MV := fnM 2 mb_can_be_great
def mb_law_draw : SM :=
  (sSeq (sIf (mB (m2 mGt (m2 mIxA (mVar 0) (mC (.int 0))) (mC (.int 0))))
  (sSeq (sSet 2 (m2 mModI (m2 mIxA (mVar 0) (mC (.int 0))) (mVar 1)))
  (sSeq (sSetA (m2 mDivI (m2 mIxA (mVar 0) (mC (.int 0))) (mVar 1)) (mVar 0) (mC (.int 0)))
  (sRet (mVar 2))))
  sNil)
  (sSeq (sSetA (m2 mModI (m2 (mAdd finV) (m2 (mMul finV) (m2 mIxA (mVar 0) (mC (.int 1))) (mC (.int 69621))) (mC (.int 7))) (mC (.int 2147483647))) (mVar 0) (mC (.int 1)))
  (sRet (m2 mModI (m2 mDivI (m2 mModI (m2 (mMul finV) (m2 mIxA (mVar 0) (mC (.int 1))) (m2 mIxA (mVar 0) (mC (.int 1)))) (mC (.int 2147483629))) (mC (.int 32))) (mVar 1)))))
def m_law_draw : List MV → MH → R MV := fnM 3 mb_law_draw
def le_law_fits_0 : EM :=
  (m2 mSubI (m2 mIxA (mVar 4) (mC (.int 1))) (m2 mIxA (m2 mIxA (mVar 2) (mC (.int 0))) (mC (.int 1))))
def lt_law_fits_0 : TM :=
  (mOr (mB (m2 mNeA (m2 mIxA (mVar 4) (mC (.int 0))) (mC (.str (Str.ofString "small"))))) (mB (m2 mNeA (m2 mIxA (mVar 4) (mC (.int 2))) (m2 mIxA (m2 mIxA (mVar 2) (mC (.int 0))) (mC (.int 2))))))
def le_law_fits_1 : EM :=
  (mVar 4)
def le_law_fits_2 : EM :=
  (m3D mDGet2 (mVar 0) (m2 (mAdd finV) (mVar 1) (mVar 3)) (mN mkTup (mCons (mC (.str (Str.ofString "none"))) (mCons (mC (.int 0)) (mCons (mC (.str (Str.ofString "none"))) mNil)))))
def mb_law_fits : SM :=
  (sSeq (sSet 2 (mLc (fun σ h => bindR ((mCons (mC (.int 4)) mNil) σ h) itR1) (.nm 3) mYes le_law_fits_2 [3] finV))
  (sSeq (sIf (mB (m2 mNeA (mLc (iL (mVar 2)) (.nm 4) lt_law_fits_0 le_law_fits_1 [4] finV) (mN mkLv mNil)))
  (sRet (mC (.bl false)))
  sNil)
  (sRet (mAndV (m2 mEqA (m2 mModI (m2 mIxA (m2 mIxA (mVar 2) (mC (.int 0))) (mC (.int 1))) (mC (.int 4))) (mC (.int 0))) (m2 mEqA (mLc (iL (mVar 2)) (.nm 4) mYes le_law_fits_0 [4] finV) (mN mkLv (mCons (mC (.int 0)) (mCons (mC (.int 1)) (mCons (mC (.int 2)) (mCons (mC (.int 3)) mNil))))))))))
def m_law_fits : List MV → MH → R MV := fnM 5 mb_law_fits
def mb_law_entry : SM :=
  (sSeq (sSet 2 (mN (cF 2 m_law_draw) (mCons (mVar 0) (mCons (mVar 1) mNil))))
  (sSeq (sSet 3 (m2 mIxA (mN mkLv (mCons (mC (.str (Str.ofString "read"))) (mCons (mC (.str (Str.ofString "write"))) mNil))) (mN (cF 2 m_law_draw) (mCons (mVar 0) (mCons (mC (.int 2)) mNil)))))
  (sRet (mN mkTup (mCons (mC (.str (Str.ofString "small"))) (mCons (mVar 2) (mCons (mVar 3) mNil)))))))
def m_law_entry : List MV → MH → R MV := fnM 4 mb_law_entry
def le_law_table_0 : EM :=
  (mN mkTup (mCons (m2 (mAdd finV) (mVar 3) (mVar 8)) (mCons (mN mkTup (mCons (mC (.str (Str.ofString "small"))) (mCons (m2 mSubI (m2 (mAdd finV) (mVar 7) (mC (.int 3))) (mVar 8)) (mCons (mVar 5) mNil)))) mNil)))
def le_law_table_1 : EM :=
  (mN mkTup (mCons (m2 (mAdd finV) (mVar 3) (mVar 8)) (mCons (mN mkTup (mCons (mC (.str (Str.ofString "small"))) (mCons (m2 (mAdd finV) (mVar 7) (mVar 8)) (mCons (mVar 5) mNil)))) mNil)))
def lb_law_table_0 : SM :=
  (sIf (mB (m2 mEqA (mN (cF 2 m_law_draw) (mCons (mVar 0) (mCons (mC (.int 2)) mNil))) (mC (.int 0))))
  (sSetA (mN (cF 2 m_law_entry) (mCons (mVar 0) (mCons (mVar 1) mNil))) (mVar 2) (m2 (mAdd finV) (mVar 3) (mVar 8)))
  sNil)
def lb_law_table_1 : SM :=
  (sSeq (sSet 4 (mN (cF 2 m_law_draw) (mCons (mVar 0) (mCons (mC (.int 8)) mNil))))
  (sSeq (sSet 5 (m2 mIxA (mN mkLv (mCons (mC (.str (Str.ofString "read"))) (mCons (mC (.str (Str.ofString "write"))) mNil))) (mN (cF 2 m_law_draw) (mCons (mVar 0) (mCons (mC (.int 2)) mNil)))))
  (sSeq (sSet 6 (m2 (mMul finV) (mC (.int 4)) (mN (cF 2 m_law_draw) (mCons (mVar 0) (mCons (m2 mDivI (mVar 1) (mC (.int 4))) mNil)))))
  (sIf (mB (m2 mEqA (mVar 4) (mC (.int 0))))
  (sSetA (mN mkTup (mCons (mC (.str (Str.ofString "great"))) (mCons (mVar 6) (mCons (mVar 5) mNil)))) (mVar 2) (mVar 3))
  (sIf (mB (m2 mLt (mVar 4) (mC (.int 3))))
  (sSeq (sSet 7 (m2 mIxA (mN mkLv (mCons (mVar 6) (mCons (mVar 6) (mCons (mN (cF 2 m_law_draw) (mCons (mVar 0) (mCons (m2 mSubI (mVar 1) (mC (.int 3))) mNil))) mNil)))) (mN (cF 2 m_law_draw) (mCons (mVar 0) (mCons (mC (.int 3)) mNil)))))
  (sSeq (sExpr (mMethD mDUpd (mVar 2) (mCons (mLc (fun σ h => bindR ((mCons (mC (.int 4)) mNil) σ h) itR1) (.nm 8) mYes le_law_table_1 [8] finV) mNil)))
  (sSeq (sIf (mB (m2 mEqA (mN (cF 2 m_law_draw) (mCons (mVar 0) (mCons (mC (.int 6)) mNil))) (mC (.int 0))))
  (sExpr (mMethD mDUpd (mVar 2) (mCons (mLc (fun σ h => bindR ((mCons (mC (.int 4)) mNil) σ h) itR1) (.nm 8) mYes le_law_table_0 [8] finV) mNil)))
  sNil)
  (sIf (mB (m2 mEqA (mVar 4) (mC (.int 2))))
  (sSetA (mN (cF 2 m_law_entry) (mCons (mVar 0) (mCons (mVar 1) mNil))) (mVar 2) (m2 (mAdd finV) (mVar 3) (mN (cF 2 m_law_draw) (mCons (mVar 0) (mCons (mC (.int 4)) mNil)))))
  sNil))))
  (sIf (mB (m2 mLt (mVar 4) (mC (.int 6))))
  (sFor (fun σ h => bindR ((mCons (mC (.int 4)) mNil) σ h) itR1) (gmName 8) (sGc [8]
  lb_law_table_0))
  sNil))))))
def mb_law_table : SM :=
  (sSeq (sSet 2 mDict)
  (sSeq (sFor (fun σ h => bindR ((mCons (mC (.int 0)) (mCons (mC (.int 32)) (mCons (mC (.int 4)) mNil))) σ h) itR3) (gmName 3) (sGc [3, 4, 5, 6]
  lb_law_table_1))
  (sRet (mVar 2))))
def m_law_table : List MV → MH → R MV := fnM 9 mb_law_table
def lb_law_covered_0 : SM :=
  (sSetA (mN mkTup (mCons (m2 (mAdd finV) (mVar 4) (mVar 6)) (mCons (mVar 5) mNil))) (mVar 1) (m2 (mAdd finV) (mVar 2) (mVar 6)))
def lb_law_covered_1 : SM :=
  (sSeq (sAsg (m2 mIxA (mVar 0) (mVar 2)) (gmTup (gmCons (gmName 3) (gmCons (gmName 4) (gmCons (gmName 5) gmNil))) 3))
  (sFor (fun σ h => bindR ((mCons (m2 mIxA (mN mkLv (mCons (mC (.int 1)) (mCons (mC (.int 4)) mNil))) (mN mInt (mCons (m2 mEqA (mVar 3) (mC (.str (Str.ofString "great")))) mNil))) mNil) σ h) itR1) (gmName 6) (sGc [6]
  lb_law_covered_0)))
def mb_law_covered : SM :=
  (sSeq (sSet 1 mDict)
  (sSeq (sFor (iD (mVar 0)) (gmName 2) (sGc [2, 3, 4, 5, 6]
  lb_law_covered_1))
  (sRet (mVar 1))))
def m_law_covered : List MV → MH → R MV := fnM 7 mb_law_covered
def mb_law_pool : SM :=
  (sSeq (sSet 2 (mC (.int 0)))
  (sSeq (sIf (mB (m2 mLt (mVar 1) (mN mLen (mCons (mVar 0) mNil))))
  (sSet 2 (m2 mIxA (mVar 0) (mVar 1)))
  sNil)
  (sSeq (sSet 3 (mN mMax (mCons (mVar 2) (mCons (m2 mSubI (m1 mNeg (mC (.int 1))) (mVar 2)) mNil))))
  (sSeq (sSet 4 (m2 mModI (m2 (mMul finV) (m2 (mAdd finV) (m2 (mAdd finV) (m2 (mAdd finV) (m2 mModI (mVar 3) (mC (.int 2147483629))) (m2 (mMul finV) (m2 (mMul finV) (mC (.int 7919)) (mVar 1)) (mVar 1))) (m2 (mMul finV) (mC (.int 31)) (mVar 1))) (mC (.int 17))) (mC (.int 48271))) (mC (.int 2147483647))))
  (sRet (mN mkLst (mCons (m2 (mMul finV) (mVar 3) (mN mInt (mCons (m2 mGe (mVar 3) (m2 mPowI (mC (.int 10)) (mC (.int 18)))) mNil))) (mCons (mVar 4) mNil))))))))
def m_law_pool : List MV → MH → R MV := fnM 5 mb_law_pool
def lb_law_other_0 : SM :=
  (sExpr (m2D mDPop (mVar 3) (m2 (mAdd finV) (mVar 9) (mVar 10))))
def lb_law_other_1 : SM :=
  (sIf (mAnd (mB (m2 mEqA (mVar 4) (mC (.int 1)))) (mTru (mN (cF 2 m_law_fits) (mCons (mVar 1) (mCons (mVar 9) mNil)))))
  (sSeq (sFor (fun σ h => bindR ((mCons (mC (.int 4)) mNil) σ h) itR1) (gmName 10) (sGc [10]
  lb_law_other_0))
  (sSetA (mN mkTup (mCons (mC (.str (Str.ofString "great"))) (mCons (m2 mIxA (m2 mIxA (mVar 1) (mVar 9)) (mC (.int 1))) (mCons (m2 mIxA (m2 mIxA (mVar 1) (mVar 9)) (mC (.int 2))) mNil)))) (mVar 3) (mVar 9)))
  sNil)
def le_law_other_0 : EM :=
  (mN mkTup (mCons (m2 (mAdd finV) (mVar 5) (mVar 10)) (mCons (mN mkTup (mCons (mC (.str (Str.ofString "small"))) (mCons (m2 (mAdd finV) (mVar 7) (mVar 10)) (mCons (mVar 8) mNil)))) mNil)))
def lb_law_other_2 : SM :=
  (sSeq (sAsg (m2 mIxA (mVar 1) (mVar 5)) (gmTup (gmCons (gmName 6) (gmCons (gmName 7) (gmCons (gmName 8) gmNil))) 3))
  (sIf (mAnd (mB (m2 mEqA (mVar 6) (mC (.str (Str.ofString "great"))))) (mB (m2 mLt (mVar 4) (mC (.int 2)))))
  (sExpr (mMethD mDUpd (mVar 3) (mCons (mLc (fun σ h => bindR ((mCons (mC (.int 4)) mNil) σ h) itR1) (.nm 10) mYes le_law_other_0 [10] finV) mNil)))
  sNil))
def mb_law_other : SM :=
  (sSeq (sSet 3 (mN (mDict1 finDR) (mCons (mVar 1) mNil)))
  (sSeq (sSet 4 (mN (cF 2 m_law_draw) (mCons (mVar 0) (mCons (mC (.int 4)) mNil))))
  (sSeq (sFor (iD (mVar 1)) (gmName 5) (sGc [5, 6, 7, 8]
  lb_law_other_2))
  (sSeq (sFor (fun σ h => bindR ((mCons (mC (.int 0)) (mCons (mC (.int 32)) (mCons (mC (.int 4)) mNil))) σ h) itR3) (gmName 9) (sGc [9]
  lb_law_other_1))
  (sSeq (sIf (mAnd (mB (m2 mEqA (mVar 4) (mC (.int 2)))) (mB (m2 mNeA (mVar 3) mDictV)))
  (sSeq (sSet 5 (m2 mIxA (mN (mSortA finV) (mCons (mVar 3) mNil)) (mN (cF 2 m_law_draw) (mCons (mVar 0) (mCons (mN mLenD (mCons (mVar 3) mNil)) mNil)))))
  (sSetA (mN mkTup (mCons (m2 mIxA (m2 mIxA (mVar 3) (mVar 5)) (mC (.int 0))) (mCons (m2 mIxA (m2 mIxA (mVar 3) (mVar 5)) (mC (.int 1))) (mCons (m2 mIxA (mN mkLv (mCons (mC (.str (Str.ofString "read"))) (mCons (mC (.str (Str.ofString "write"))) mNil))) (mN (cF 2 m_law_draw) (mCons (mVar 0) (mCons (mC (.int 2)) mNil)))) mNil)))) (mVar 3) (mVar 5)))
  sNil)
  (sRet (m2 mIxA (mN mkLv (mCons (mVar 3) (mCons (mN (cF 2 m_law_table) (mCons (mVar 0) (mCons (mVar 2) mNil))) mNil))) (mN mInt (mCons (mAndV (m2 mEqA (mVar 4) (mC (.int 3))) (m2 mEqA (mN (cF 2 m_law_draw) (mCons (mVar 0) (mCons (mC (.int 2)) mNil))) (mC (.int 0)))) mNil)))))))))
def m_law_other : List MV → MH → R MV := fnM 11 mb_law_other
def lb_law_right_0 : SM :=
  (sSeq (sSet 4 (mN mkTup (mCons (mN (cR 1 m_covered) (mCons (mVar 0) mNil)) (mCons (mN (cR 1 m_can_be_great) (mCons (mVar 0) mNil)) mNil))))
  (sSeq (sIf (mOr (mB (m2 mNeB (mVar 4) (mVar 2))) (mB (m2 mNeB (mN mReprA (mCons (mVar 0) mNil)) (mVar 1))))
  (sRet (mC (.bl false)))
  sNil)
  (sSeq (sExpr (mMethD mDClear (m2 mIxA (mVar 4) (mC (.int 0))) mNil))
  (sExpr (mMeth mAppend (m2 mIxA (mVar 4) (mC (.int 1))) (mCons (mC .non) mNil))))))
def lt_law_right_0 : TM :=
  (mTru (mN (cF 2 m_law_fits) (mCons (mVar 0) (mCons (mVar 5) mNil))))
def le_law_right_0 : EM :=
  (mVar 5)
def mb_law_right : SM :=
  (sSeq (sSet 1 (mN mReprA (mCons (mVar 0) mNil)))
  (sSeq (sSet 2 (mN mkTup (mCons (mN (cF 1 m_law_covered) (mCons (mVar 0) mNil)) (mCons (mLc (fun σ h => bindR ((mCons (mC (.int 0)) (mCons (mC (.int 32)) (mCons (mC (.int 4)) mNil))) σ h) itR3) (.nm 5) lt_law_right_0 le_law_right_0 [5] finV) mNil))))
  (sSeq (sFor (fun σ h => bindR ((mCons (mC (.int 2)) mNil) σ h) itR1) (gmName 3) (sGc [3, 4]
  lb_law_right_0))
  (sRet (m2 mEqB (mN mkTup (mCons (mN (fun as h => cF 1 m_covered (g_kb_covered_0 as) h) (mCons (mVar 0) mNil)) (mCons (mN (fun as h => cF 1 m_can_be_great (g_kb_can_be_great_0 as) h) (mCons (mVar 0) mNil)) mNil))) (mVar 2))))))
def m_law_right : List MV → MH → R MV := fnM 6 mb_law_right
def le_law_0 : EM :=
  (mN mkTup (mCons (mVar 9) (mCons (m2 mIxA (mVar 4) (mVar 9)) mNil)))
def lb_law_0 : SM :=
  (sSeq (sSet 2 (mN (cR 2 m_law_pool) (mCons (mVar 0) (mCons (mVar 1) mNil))))
  (sSeq (sSet 3 (m2 (mMul finV) (mC (.int 8)) (m2 (mAdd finV) (mC (.int 1)) (mN (cF 2 m_law_draw) (mCons (mVar 2) (mCons (mC (.int 8)) mNil))))))
  (sSeq (sSet 4 (mN (cF 2 m_law_table) (mCons (mVar 2) (mCons (mVar 3) mNil))))
  (sSeq (sSet 5 (mN (cF 3 m_law_other) (mCons (mVar 2) (mCons (mVar 4) (mCons (mVar 3) mNil)))))
  (sSeq (sIf (mOr (mNot (mTru (mN (cF 1 m_law_right) (mCons (mVar 4) mNil)))) (mNot (mTru (mN (cF 1 m_law_right) (mCons (mVar 5) mNil)))))
  (sRet (mC (.bl false)))
  sNil)
  (sSeq (sSet 6 (m2 mEqA (mN (cF 1 m_law_covered) (mCons (mVar 4) mNil)) (mN (cF 1 m_law_covered) (mCons (mVar 5) mNil))))
  (sSeq (sSet 7 (mN mkLv (mCons (mN (cF 2 m_same_said) (mCons (mVar 4) (mCons (mVar 5) mNil))) (mCons (mN (fun as h => cF 2 m_same_said (g_kb_same_said_10 as) h) (mCons (mVar 4) (mCons (mVar 5) mNil))) mNil))))
  (sSeq (sIf (mB (m2 mNeA (mN mRepr (mCons (mVar 7) mNil)) (mN mRepr (mCons (m2 (mMul finV) (mN mkLv (mCons (mVar 6) mNil)) (mC (.int 2))) mNil))))
  (sRet (mC (.bl false)))
  sNil)
  (sSeq (sSet 8 (mN (mDictP finDV) (mCons (mLc (iL (m1 (mRev finV) (mN (mSortA finV) (mCons (mVar 4) mNil)))) (.nm 9) mYes le_law_0 [9] finV) mNil)))
  (sIf (mOr (mB (m2 mIsNot (mN (cF 2 m_same_said) (mCons (mVar 4) (mCons (mVar 8) mNil))) (mC (.bl true)))) (mB (m2 mNeA (mN (cF 1 m_can_be_great) (mCons (mVar 8) mNil)) (mN (cF 1 m_can_be_great) (mCons (mVar 4) mNil)))))
  (sRet (mC (.bl false)))
  sNil))))))))))
def mb_law : SM :=
  (sSeq (sFor (fun σ h => bindR ((mCons (mN mMax (mCons (mC (.int 1)) (mCons (mN mMin (mCons (mN mLen (mCons (mVar 0) mNil)) (mCons (mC (.int 16)) mNil))) mNil))) mNil) σ h) itR1) (gmName 1) (sGc [1, 2, 3, 4, 5, 6, 7, 8]
  lb_law_0))
  (sRet (mAndV (m2 mEqA (mN (cF 1 m_covered) (mCons mDictV mNil)) mDictV) (mAndV (m2 mEqA (mN (cF 1 m_can_be_great) (mCons mDictV mNil)) (mN mkLv mNil)) (m2 mIs (mN (cF 2 m_same_said) (mCons mDictV (mCons mDictV mNil))) (mC (.bl true)))))))
def m_law : List MV → MH → R MV := fnM 10 mb_law
end MP

/-! Plain: dicts with whole numbers as keys, as lists of pairs; their mirror. -/
namespace MP
open PySem PySem.Spec PyProof.Rows L2
section
variable {α : Type}
abbrev As (α : Type) := List (Int × α)
def lk : As α → Int → Option α
  | [], _ => none
  | (a, x) :: t, b => if a = b then some x else lk t b
def pt : As α → Int → α → As α
  | [], b, y => [(b, y)]
  | (a, x) :: t, b, y => if a = b then (a, y) :: t else (a, x) :: pt t b y
def dp : As α → Int → As α
  | [], _ => []
  | (a, x) :: t, b => if a = b then t else (a, x) :: dp t b
def pta (t u : As α) : As α := u.foldl (fun t p => pt t p.1 p.2) t
def ndk (t : As α) : Prop := (t.map (·.1)).Nodup
theorem lk_pt (t : As α) (a b : Int) (y : α) : lk (pt t a y) b = if a = b then some y else lk t b := by
  induction t with
  | nil => by_cases z : a = b <;> simp [pt, lk, z]
  | cons p t ih =>
    obtain ⟨c, x⟩ := p
    unfold pt
    by_cases z : c = a
    · subst z
      by_cases z2 : c = b <;> simp [lk, z2]
    · rw [if_neg z]
      by_cases z2 : c = b
      · subst z2
        have : ¬ a = c := fun e => z e.symm
        simp [lk, this]
      · simp [lk, z2, ih]
theorem lk_mem {t : As α} {a : Int} {x : α} (h : lk t a = some x) : (a, x) ∈ t := by
  induction t with
  | nil => cases h
  | cons p t ih =>
    obtain ⟨c, y⟩ := p
    unfold lk at h
    split at h
    · rename_i z
      cases h
      rw [z]; exact List.mem_cons_self
    · exact List.mem_cons_of_mem _ (ih h)
theorem lk_none {t : As α} {a : Int} : lk t a = none ↔ a ∉ t.map (·.1) := by
  induction t with
  | nil => simp [lk]
  | cons p t ih =>
    obtain ⟨c, y⟩ := p
    unfold lk
    by_cases z : c = a
    · simp [z]
    · have : ¬ a = c := fun e => z e.symm
      simp only [if_neg z, ih, List.map_cons, List.mem_cons, this, false_or]
theorem lk_of {t : As α} (nd : ndk t) {a : Int} {x : α} (h : (a, x) ∈ t) : lk t a = some x := by
  induction t with
  | nil => simp at h
  | cons p t ih =>
    obtain ⟨c, y⟩ := p
    unfold ndk at nd
    rw [List.map_cons] at nd
    have nd' := List.nodup_cons.mp nd
    unfold lk
    rcases List.mem_cons.mp h with e | h
    · cases e; simp
    · have : ¬ c = a := fun e => nd'.1 (by rw [e]; exact List.mem_map.mpr ⟨_, h, rfl⟩)
      rw [if_neg this]
      exact ih nd'.2 h
theorem keys_pt {t : As α} {a : Int} {y : α} {b : Int} : b ∈ (pt t a y).map (·.1) ↔ b = a ∨ b ∈ t.map (·.1) := by
  have h1 := lk_none (t := pt t a y) (a := b)
  have h2 := lk_none (t := t) (a := b)
  rw [lk_pt] at h1
  by_cases z : a = b
  · subst z
    simp at h1
    simp [h1]
  · have z' : ¬ b = a := fun e => z e.symm
    rw [if_neg z] at h1
    simp only [z', false_or]
    rw [← Decidable.not_iff_not, ← h1, h2]
theorem ndk_pt {t : As α} (nd : ndk t) (a : Int) (y : α) : ndk (pt t a y) := by
  induction t with
  | nil => simp [pt, ndk]
  | cons p t ih =>
    obtain ⟨c, x⟩ := p
    have nd' := List.nodup_cons.mp (show (c :: t.map (·.1)).Nodup from nd)
    unfold pt
    split
    · exact nd
    · rename_i z
      refine List.nodup_cons.mpr ⟨fun m => ?_, ih nd'.2⟩
      rcases keys_pt.mp m with e | m
      · exact z e
      · exact nd'.1 m
theorem len_pt (t : As α) (a : Int) (y : α) : (pt t a y).length ≤ t.length + 1 := by
  induction t with
  | nil => simp [pt]
  | cons p t ih =>
    unfold pt
    split
    · simp
    · simp only [List.length_cons]; omega
theorem lk_dp {t : As α} (nd : ndk t) (a b : Int) : lk (dp t a) b = if a = b then none else lk t b := by
  induction t with
  | nil => simp [dp, lk]
  | cons p t ih =>
    obtain ⟨c, x⟩ := p
    have nd' := List.nodup_cons.mp (show (c :: t.map (·.1)).Nodup from nd)
    unfold dp
    by_cases z : c = a
    · subst z
      rw [if_pos rfl]
      by_cases z2 : c = b
      · subst z2
        simp [lk_none.mpr nd'.1]
      · simp [lk, z2]
    · rw [if_neg z]
      by_cases z2 : c = b
      · subst z2
        have : ¬ a = c := fun e => z e.symm
        simp [lk, this]
      · simp [lk, z2, ih nd'.2]
theorem dp_sub (t : As α) (a : Int) : (dp t a).Sublist t := by
  induction t with
  | nil => exact .slnil
  | cons p t ih =>
    unfold dp
    split
    · exact List.sublist_cons_self _ _
    · exact ih.cons₂ _
theorem ndk_dp {t : As α} (nd : ndk t) (a : Int) : ndk (dp t a) := nd.sublist ((dp_sub t a).map _)
theorem pta_nil (t : As α) : pta t [] = t := rfl
theorem pta_cons (t u : As α) (a : Int) (x : α) : pta t ((a, x) :: u) = pta (pt t a x) u := rfl
theorem ndk_pta {t : As α} (nd : ndk t) (u : As α) : ndk (pta t u) := by
  induction u generalizing t with
  | nil => exact nd
  | cons p u ih => exact ih (ndk_pt nd p.1 p.2)
/-- put one behind the other, no key twice among the new ones -/
theorem lk_pta {u : As α} (nu : ndk u) (t : As α) (b : Int) : lk (pta t u) b = match lk u b with | some y => some y | none => lk t b := by
  induction u generalizing t with
  | nil => rfl
  | cons p u ih =>
    obtain ⟨a, x⟩ := p
    have nu' := List.nodup_cons.mp (show (a :: u.map (·.1)).Nodup from nu)
    rw [pta_cons, ih nu'.2, lk_pt]
    by_cases z : a = b
    · subst z
      have : lk u a = none := lk_none.mpr nu'.1
      simp [lk, this]
    · simp only [lk, if_neg z]
theorem len_pta (t u : As α) : (pta t u).length ≤ t.length + u.length := by
  induction u generalizing t with
  | nil => simp [pta]
  | cons p u ih =>
    have h1 := ih (pt t p.1 p.2)
    have h2 := len_pt t p.1 p.2
    have h3 : pta t (p :: u) = pta (pt t p.1 p.2) u := rfl
    rw [h3, List.length_cons]
    omega
/-- no key twice ahead: the pairs put, one behind the other -/
theorem pta_app {u t : As α} (nd : ndk (t ++ u)) : pta t u = t ++ u := by
  induction u generalizing t with
  | nil => simp [pta]
  | cons p u ih =>
    obtain ⟨a, x⟩ := p
    have no : a ∉ t.map (·.1) := fun m => by
      unfold ndk at nd
      rw [List.map_append] at nd
      exact (List.nodup_append.mp nd).2.2 a m a (by simp) rfl
    have e : pt t a x = t ++ [(a, x)] := by
      clear ih nd
      induction t with
      | nil => rfl
      | cons q t ih =>
        have h1 : ¬ q.1 = a := fun e => no (by rw [← e]; simp)
        have h2 : a ∉ t.map (·.1) := fun m => no (by rw [List.map_cons]; exact List.mem_cons_of_mem _ m)
        unfold pt
        rw [if_neg h1, ih h2]; rfl
    rw [pta_cons, e, ih (by rw [List.append_assoc]; exact nd), List.append_assoc]; rfl
/-- the same looks: the same many -/
theorem len_eq {t u : As α} (nt : ndk t) (nu : ndk u) (h : ∀ a, lk t a = none ↔ lk u a = none) : t.length = u.length := by
  have p : (t.map (·.1)).Perm (u.map (·.1)) := (List.perm_ext_iff_of_nodup nt nu).mpr fun a => by
    have := h a
    rw [lk_none, lk_none] at this
    exact Decidable.not_iff_not.mp this
  simpa using p.length_eq
end
/-! the mirror -/
section
variable {α : Type} (enc : α → MV)
def tabG (t : As α) : List (MV × MV) := t.map fun p => (.int p.1, enc p.2)
def dvG (t : As α) : MV := .dv (t.map fun p => .int p.1) (t.map fun p => enc p.2)
theorem asD_dvG (t : As α) (h : MH) : asD (dvG enc t) h = some (tabG enc t) := by
  show some ((t.map fun p => MV.int p.1).zip (t.map fun p => enc p.2)) = _
  congr 1
  unfold tabG
  induction t with
  | nil => rfl
  | cons p t ih => rw [List.map_cons, List.map_cons, List.zip_cons_cons, ih, List.map_cons]
theorem fin_dvG (t : As α) : MV.dv ((tabG enc t).map (·.1)) ((tabG enc t).map (·.2)) = dvG enc t := by
  unfold tabG dvG
  rw [List.map_map, List.map_map]; rfl
theorem look_tabG (t : As α) (a : Int) : lookKV (tabG enc t) (.int a) = (lk t a).map enc := by
  induction t with
  | nil => rfl
  | cons p t ih =>
    show (if beqV (.int p.1) (.int a) = true then some (enc p.2) else lookKV (tabG enc t) (.int a)) = _
    rw [ih]
    by_cases z : p.1 = a <;> simp [beqV, lk, z]
theorem put_tabG (t : As α) (a : Int) (x : α) : putKV (tabG enc t) (.int a) (enc x) = tabG enc (pt t a x) := by
  induction t with
  | nil => rfl
  | cons p t ih =>
    show (if beqV (.int p.1) (.int a) = true then _ else (.int p.1, enc p.2) :: putKV (tabG enc t) (.int a) (enc x)) = _
    rw [ih]
    have e : pt (p :: t) a x = if p.1 = a then (p.1, x) :: t else (p.1, p.2) :: pt t a x := rfl
    rw [e]
    by_cases z : p.1 = a
    · simp [beqV, z, tabG]
    · rw [if_neg (by simp [beqV, z]), if_neg z]; rfl
theorem drop_tabG (t : As α) (a : Int) : dropKV (tabG enc t) (.int a) = tabG enc (dp t a) := by
  induction t with
  | nil => rfl
  | cons p t ih =>
    show (if beqV (.int p.1) (.int a) = true then tabG enc t else (.int p.1, enc p.2) :: dropKV (tabG enc t) (.int a)) = _
    rw [ih]
    have e : dp (p :: t) a = if p.1 = a then t else (p.1, p.2) :: dp t a := rfl
    rw [e]
    by_cases z : p.1 = a
    · simp [beqV, z, tabG]
    · rw [if_neg (by simp [beqV, z]), if_neg z]; rfl
theorem putAll_tabG (t u : As α) : putAll (tabG enc t) (tabG enc u) = tabG enc (pta t u) := by
  induction u generalizing t with
  | nil => rfl
  | cons p u ih =>
    show putAll (putKV (tabG enc t) (.int p.1) (enc p.2)) (tabG enc u) = _
    rw [put_tabG, ih]; rfl
theorem nod_tabG {t : As α} (nd : ndk t) : nodK (tabG enc t) = true := by
  induction t with
  | nil => rfl
  | cons p t ih =>
    have nd' := List.nodup_cons.mp (show (p.1 :: t.map (·.1)).Nodup from nd)
    show ((lookKV (tabG enc t) (.int p.1)).isNone && nodK (tabG enc t)) = true
    rw [look_tabG, lk_none.mpr nd'.1, ih nd'.2]; rfl
theorem len_tabG (t : As α) : (tabG enc t).length = t.length := by simp [tabG]
theorem keysOk_tabG (t : As α) : keysOk (tabG enc t) = true := by
  unfold keysOk tabG
  rw [List.all_map, List.all_eq_true]
  intro p _; rfl
variable {enc}
/-- data of one kind -/
structure Dat (enc : α → MV) (dat : α → PyData) [DecidableEq α] : Prop where
  to : ∀ x h, toD h 12 (enc x) = some (dat x)
  sh : ∀ x, SeqAt.shaped (dat x) = true
  eq : ∀ x y, PyData.eqv (dat x) (dat y) = decide (x = y)
  pu : ∀ x, pureV (enc x) = true
def deq [DecidableEq α] (t u : As α) : Bool := decide (t.length = u.length) && t.all fun p => decide (lk u p.1 = some p.2)
theorem hits_tabG [DecidableEq α] {dat : α → PyData} (D : Dat enc dat) (h : MH) (u : As α) : ∀ t : As α, hitsM h (tabG enc u) (tabG enc t) = some (t.all fun p => decide (lk u p.1 = some p.2))
  | [] => rfl
  | (a, x) :: t => by
    have ih := hits_tabG D h u t
    show hitsM h (tabG enc u) ((.int a, enc x) :: tabG enc t) = _
    unfold hitsM
    rw [look_tabG]
    cases e : lk u a with
    | none => simp [mkey, e]
    | some y =>
      simp only [mkey, Option.map_some, D.to, D.sh, Bool.and_self, if_true, ih, D.eq]
      rw [List.all_cons, e]
      have : decide (some y = some x) = decide (x = y) := by
        by_cases z : x = y
        · subst z; simp
        · have z' : ¬ y = x := fun e => z e.symm
          simp [z, z']
      rw [this]
theorem eqD_tabG [DecidableEq α] {dat : α → PyData} (D : Dat enc dat) (neg : Bool) {a b : MV} {h : MH} {t u : As α} (ea : asD a h = some (tabG enc t)) (eb : asD b h = some (tabG enc u)) : eqDM neg a b h = .ok (.bl (if neg then !deq t u else deq t u)) h := by
  unfold eqDM
  simp only [ea, eb, len_tabG, hits_tabG D]
  unfold deq
  by_cases z : t.length = u.length
  · rw [if_pos z, decide_eq_true z, Bool.true_and]
  · rw [if_neg z, decide_eq_false z, Bool.false_and]
    cases neg <;> rfl
theorem toD_asD {a : MV} {h : MH} {l : List (MV × MV)} (e : asD a h = some l) : toD h 12 a = none := by
  cases a with
  | dv ks ws => rfl
  | ref n =>
    unfold asD at e
    simp only at e
    show (match h[n]? with | some (.lst l) => _ | _ => none) = none
    cases eo : h[n]? with
    | none => rfl
    | some o =>
      cases o with
      | lst l' => simp only [eo] at e; cases e
      | _ => rfl
  | _ => cases e
theorem mEqA_dict {a b : MV} {h : MH} {l m : List (MV × MV)} (ea : asD a h = some l) (eb : asD b h = some m) : mEqA a b h = eqDM false a b h := by
  have h1 : mEq a b h = .bad := by
    unfold mEq eqMV
    rw [toD_asD ea]
  have h2 : eqSt false a b h = .bad := by
    cases a <;> first | rfl | cases ea
  unfold mEqA
  rw [h1, h2]; rfl
theorem mNeA_dict {a b : MV} {h : MH} {l m : List (MV × MV)} (ea : asD a h = some l) (eb : asD b h = some m) : mNeA a b h = eqDM true a b h := by
  have h1 : mNe a b h = .bad := by
    unfold mNe eqMV
    rw [toD_asD ea]
  have h2 : eqSt true a b h = .bad := by
    cases a <;> first | rfl | cases ea
  unfold mNeA
  rw [h1, h2]; rfl
theorem eqA_tabG [DecidableEq α] {dat : α → PyData} (D : Dat enc dat) {a b : MV} {h : MH} {t u : As α} (ea : asD a h = some (tabG enc t)) (eb : asD b h = some (tabG enc u)) : mEqA a b h = .ok (.bl (deq t u)) h := by
  rw [mEqA_dict ea eb, eqD_tabG D false ea eb]; rfl
theorem neA_tabG [DecidableEq α] {dat : α → PyData} (D : Dat enc dat) {a b : MV} {h : MH} {t u : As α} (ea : asD a h = some (tabG enc t)) (eb : asD b h = some (tabG enc u)) : mNeA a b h = .ok (.bl (!deq t u)) h := by
  rw [mNeA_dict ea eb, eqD_tabG D true ea eb]; rfl
theorem deq_true [DecidableEq α] {t u : As α} (nt : ndk t) (nu : ndk u) (h : ∀ a, lk t a = lk u a) : deq t u = true := by
  unfold deq
  rw [Bool.and_eq_true, decide_eq_true_eq, List.all_eq_true]
  refine ⟨len_eq nt nu fun a => by rw [h], fun p hp => decide_eq_true ?_⟩
  rw [← h]
  exact lk_of nt hp
theorem deq_false [DecidableEq α] {t u : As α} {a : Int} {x : α} (h1 : lk t a = some x) (h2 : lk u a ≠ some x) : deq t u = false := by
  unfold deq
  rw [Bool.and_eq_false_iff]
  refine .inr ?_
  rw [List.all_eq_false]
  exact ⟨(a, x), lk_mem h1, by simpa using h2⟩
theorem pure_dvG {dat : α → PyData} [DecidableEq α] (D : Dat enc dat) (t : As α) : pureV (dvG enc t) = true := by
  unfold dvG pureV
  exact pures_map (fun p => D.pu p.2) t
end
end MP

/-! Plain: what the defs of the module entries tell, for tables of entries. -/
namespace MP
open PySem PySem.Spec PyProof.Rows L2
theorem seq_nx {a b : SM} {σ σ1 : Lo} {h h1 : MH} (e : a σ h = .nx σ1 h1) : sSeq a b σ h = b σ1 h1 := by unfold sSeq; rw [e]
theorem fnM_rt {N : Nat} {body : SM} {args : List MV} {h h' : MH} {v : MV} (e : body (args.map some ++ List.replicate (N - args.length) none) h = .rt v h') : fnM N body args h = .ok v h' := by unfold fnM; rw [e]
structure En where
  g : Bool
  f : Int
  w : Bool
  deriving DecidableEq
def gS (g : Bool) : Str := if g then Str.ofString "great" else Str.ofString "small"
def wS (w : Bool) : Str := if w then Str.ofString "write" else Str.ofString "read"
def enM (e : En) : MV := .tup [.str (gS e.g), .int e.f, .str (wS e.w)]
def enD (e : En) : PyData := .tuple [.str (gS e.g), .int e.f, .str (wS e.w)]
abbrev Cv := Int × Bool
def cvM (c : Cv) : MV := .tup [.int c.1, .str (wS c.2)]
def cvD (c : Cv) : PyData := .tuple [.int c.1, .str (wS c.2)]
theorem gS_eq (a b : Bool) : (gS a == gS b) = decide (a = b) := by cases a <;> cases b <;> decide
theorem wS_eq (a b : Bool) : (wS a == wS b) = decide (a = b) := by cases a <;> cases b <;> decide
theorem ok_gS (g : Bool) : PyData.strOk (gS g) = true := by cases g <;> decide +kernel
theorem ok_wS (w : Bool) : PyData.strOk (wS w) = true := by cases w <;> decide +kernel
theorem dat_en : Dat enM enD := by
  refine ⟨fun x h => rfl, fun x => ?_, fun x y => ?_, fun x => ?_⟩
  · simp [SeqAt.shaped, enD, PyData.canLay0, PyData.canLayAll0, ok_gS, ok_wS, PyData.depth, PyData.depthAll]
  · obtain ⟨g, f, w⟩ := x
    obtain ⟨g', f', w'⟩ := y
    simp only [enD, PyData.eqv, PyData.eqvAll, gS_eq, wS_eq, Bool.and_true, En.mk.injEq]
    by_cases z1 : g = g' <;> by_cases z2 : f = f' <;> by_cases z3 : w = w' <;> simp [z1, z2, z3]
  · simp [enM]
theorem dat_cv : Dat cvM cvD := by
  refine ⟨fun x h => rfl, fun x => ?_, fun x y => ?_, fun x => ?_⟩
  · simp [SeqAt.shaped, cvD, PyData.canLay0, PyData.canLayAll0, ok_wS, PyData.depth, PyData.depthAll]
  · obtain ⟨f, w⟩ := x
    obtain ⟨f', w'⟩ := y
    simp only [cvD, PyData.eqv, PyData.eqvAll, wS_eq, Bool.and_true, Prod.mk.injEq]
    by_cases z2 : f = f' <;> by_cases z3 : w = w' <;> simp [z2, z3]
  · simp [cvM]
theorem eq_st {a b : Str} (h : MH) (oa : PyData.strOk a = true) (ob : PyData.strOk b = true) : mEqA (.str a) (.str b) h = .ok (.bl (a == b)) h := mEqA_ok (by
  unfold mEq eqMV
  simp [toD, SeqAt.shaped, PyData.canLay0, PyData.depth, PyData.eqv, oa, ob])
@[simp] theorem eq_great (g : Bool) (h : MH) : mEqA (.str (gS g)) (.str (Str.ofString "great")) h = .ok (.bl g) h := by
  have := eq_st h (ok_gS g) (ok_gS true)
  rw [gS_eq] at this
  cases g <;> exact this
@[simp] theorem eq_small (g : Bool) (h : MH) : mEqA (.str (gS g)) (.str (Str.ofString "small")) h = .ok (.bl (!g)) h := by
  have := eq_st h (ok_gS g) (ok_gS false)
  rw [gS_eq] at this
  cases g <;> exact this
@[simp] theorem eq_read (w : Bool) (h : MH) : mEqA (.str (wS w)) (.str (Str.ofString "read")) h = .ok (.bl (!w)) h := by
  have := eq_st h (ok_wS w) (ok_wS false)
  rw [wS_eq] at this
  cases w <;> exact this
theorem ix0_en (e : En) (h : MH) : mIxA (enM e) (.int 0) h = .ok (.str (gS e.g)) h := rfl
theorem ix1_en (e : En) (h : MH) : mIxA (enM e) (.int 1) h = .ok (.int e.f) h := rfl
theorem ix2_en (e : En) (h : MH) : mIxA (enM e) (.int 2) h = .ok (.str (wS e.w)) h := rfl
def many (e : En) : Nat := if e.g then 4 else 1
def parts (a : Int) (e : En) : As Cv := (List.range (many e)).map fun i => (a + (i : Nat), (e.f + (i : Nat), e.w))
def cvs (t : As En) : As Cv := t.flatMap fun p => parts p.1 p.2
def cov (t : As En) : As Cv := pta [] (cvs t)
theorem itR1_int {j : Int} {h : MH} (hin : inB j = true) : itR1 [.int j] h = .ok (rgM 0 1 j.toNat, fun _ => true) h := by
  unfold itR1
  simp only [hin, if_true]
theorem rgM_nat (n : Nat) : rgM 0 1 n = (List.range n).map fun i => MV.int (i : Nat) := by
  unfold rgM
  refine List.map_congr_left fun i _ => ?_
  simp
section
variable (h : MH)
theorem parts_lc {σ : Lo} (a f : Int) (w : Bool) (n : Nat) (e0 : σ[0]? = some (some (.int a))) (e3 : σ[3]? = some (some (.int f))) (e4 : σ[4]? = some (some (.str (wS w)))) (l6 : σ.length = 7) :
    lcGo (fun _ => true) (.nm 6) mYes le_parts_of_0 (rgM 0 1 n) σ h = .ok ((List.range n).map fun i => .tup [.int (a + (i : Nat)), .tup [.int (f + (i : Nat)), .str (wS w)]]) h := by
  rw [rgM_nat]
  refine lcGo_all rfl fun x hx => ⟨σ.set 6 (some (.int (x : Nat))), rfl, ?_⟩
  have z1 : 2 ≤ SZ := by decide
  have g6 : (σ.set 6 (some (MV.int (x : Nat))))[6]? = some (some (.int (x : Nat))) := by rw [List.getElem?_set_self (by omega)]
  have g0 : (σ.set 6 (some (MV.int (x : Nat))))[0]? = some (some (.int a)) := by rw [List.getElem?_set_ne (by decide)]; exact e0
  have g3 : (σ.set 6 (some (MV.int (x : Nat))))[3]? = some (some (.int f)) := by rw [List.getElem?_set_ne (by decide)]; exact e3
  have g4 : (σ.set 6 (some (MV.int (x : Nat))))[4]? = some (some (.str (wS w))) := by rw [List.getElem?_set_ne (by decide)]; exact e4
  generalize σ.set 6 (some (MV.int (x : Nat))) = τ at *
  simp only [le_parts_of_0, mN, mCons, m2, mVar, mNil, g0, g3, g4, g6, bindR_ok, add_int, mkTup, List.length_cons, List.length_nil, if_pos z1]
theorem parts_i (a : Int) (e : En) : m_parts_of [.int a, enM e] h = .ok (.ref h.length) (h ++ [.lst ((parts a e).map fun p => .tup [.int p.1, cvM p.2])]) := by
  refine fnM_rt ?_
  show mb_parts_of [some (.int a), some (enM e), none, none, none, none, none] h = _
  have r1 : ((parts a e).map fun p => MV.tup [.int p.1, cvM p.2]) = (List.range (many e)).map fun i => .tup [.int (a + (i : Nat)), .tup [.int (e.f + (i : Nat)), .str (wS e.w)]] := by
    unfold parts
    rw [List.map_map]; rfl
  rw [r1]
  unfold mb_parts_of
  refine (seq_nx (σ1 := [some (.int a), some (enM e), some (.str (gS e.g)), some (.int e.f), some (.str (wS e.w)), none, none]) (h1 := h) (by simp [enM])).trans ?_
  have go : ∀ (N : Int) (n : Nat), N.toNat = n → n ≤ 4 → inB N = true → sRet (mLc (fun σ h => bindR ((mCons (mVar 5) mNil) σ h) itR1) (.nm 6) mYes le_parts_of_0 [6] finR) [some (.int a), some (enM e), some (.str (gS e.g)), some (.int e.f), some (.str (wS e.w)), some (.int N), none] h = .rt (.ref h.length) (h ++ [.lst ((List.range n).map fun i => .tup [.int (a + (i : Nat)), .tup [.int (e.f + (i : Nat)), .str (wS e.w)]])]) := fun N n en hn hin => by
    have lc := parts_lc h (σ := clrL [6] [some (.int a), some (enM e), some (.str (gS e.g)), some (.int e.f), some (.str (wS e.w)), some (.int N), none]) a e.f e.w n rfl rfl rfl rfl
    have len : (rgM 0 1 n).length ≤ SZ := by
      rw [rgM_nat, List.length_map, List.length_range]
      exact Nat.le_trans hn (by decide)
    simp only [sRet, mLc, mCons, mVar, mNil, List.getElem?_cons_succ, List.getElem?_cons_zero, bindR_ok, itR1_int hin, en, if_pos len, lc, finR, bindS_ok]
  cases hg : e.g with
  | true =>
    have m : many e = 4 := by unfold many; rw [hg]; rfl
    rw [hg] at go
    refine (seq_nx (σ1 := [some (.int a), some (enM e), some (.str (gS true)), some (.int e.f), some (.str (wS e.w)), some (.int 4), none]) (h1 := h) (by simp [c_STRETCH])).trans ?_
    rw [m]
    exact go 4 4 rfl (by decide) rfl
  | false =>
    have m : many e = 1 := by unfold many; rw [hg]; rfl
    rw [hg] at go
    refine (seq_nx (σ1 := [some (.int a), some (enM e), some (.str (gS false)), some (.int e.f), some (.str (wS e.w)), some (.int 1), none]) (h1 := h) (by simp [c_STRETCH])).trans ?_
    rw [m]
    exact go 1 1 rfl (by decide) rfl
theorem parts_F (a : Int) (e : En) : cF 2 m_parts_of [.int a, enM e] h = .ok (.lv ((parts a e).map fun p => .tup [.int p.1, cvM p.2])) h := cF_new rfl (parts_i h a e) (pures_map (fun _ => by simp [cvM]) _)
/-- a dict comprehension with two fors, nothing changed on the way -/
theorem dcIn_map {β : Type} {p : TP} {ek ev : EM} {σ : Lo} {q : β → MV} {K V : β → MV} : ∀ {l : List β}, (∀ y ∈ l, ∃ σ1, asP p (q y) σ = some σ1 ∧ ek σ1 h = .ok (K y) h ∧ ev σ1 h = .ok (V y) h) → dcIn (fun _ => true) p ek ev (l.map q) σ h = .ok (l.map fun y => (K y, V y)) h
  | [], _ => rfl
  | y :: l, z => by
    obtain ⟨σ1, e1, e2, e3⟩ := z y List.mem_cons_self
    have ih := dcIn_map (l := l) fun y hy => z y (List.mem_cons_of_mem _ hy)
    rw [List.map_cons, dcIn, if_pos rfl, e1]
    simp only [e2, e3, ih, List.map_cons]
theorem dcOut_map {α β : Type} {p p2 : TP} {r2 : IM} {vs2 : List Nat} {ek ev : EM} {σ : Lo} {q : α → MV} {inn : α → List β} {q2 : β → MV} {K V : β → MV} : ∀ {l : List α}, (∀ x ∈ l, ∃ σ1, asP p (q x) σ = some σ1 ∧ r2 σ1 h = .ok ((inn x).map q2, fun _ => true) h ∧ ∀ y ∈ inn x, ∃ σ2, asP p2 (q2 y) (clrL vs2 σ1) = some σ2 ∧ ek σ2 h = .ok (K y) h ∧ ev σ2 h = .ok (V y) h) →
    dcOut (fun _ => true) p r2 p2 vs2 ek ev (l.map q) σ h = .ok (l.flatMap fun x => (inn x).map fun y => (K y, V y)) h
  | [], _ => rfl
  | x :: l, z => by
    obtain ⟨σ1, e1, e2, e3⟩ := z x List.mem_cons_self
    have ih := dcOut_map (l := l) fun y hy => z y (List.mem_cons_of_mem _ hy)
    have e4 := dcIn_map h (ek := ek) (ev := ev) e3
    rw [List.map_cons, dcOut, if_pos rfl, e1]
    simp only [e2, e4, ih, List.flatMap_cons]
theorem len_cvs (t : As En) : (cvs t).length ≤ 4 * t.length := by
  induction t with
  | nil => simp [cvs]
  | cons p t ih =>
    have : (cvs (p :: t)).length = (parts p.1 p.2).length + (cvs t).length := by simp [cvs]
    have h2 : (parts p.1 p.2).length ≤ 4 := by
      unfold parts many
      rw [List.length_map, List.length_range]
      split <;> omega
    rw [this, List.length_cons]
    omega
theorem itI_dvG {α : Type} (enc : α → MV) (t : As α) : itI (dvG enc t) h = .ok (t.map fun p => .tup [.int p.1, enc p.2], fun _ => true) h := by
  show R.ok (((t.map fun p => MV.int p.1).zip (t.map fun p => enc p.2)).map fun p => MV.tup [p.1, p.2], fun _ => true) h = _
  congr 2
  induction t with
  | nil => rfl
  | cons p t ih => rw [List.map_cons, List.map_cons, List.zip_cons_cons, List.map_cons, ih, List.map_cons]
theorem covered_i {t : As En} (hl : t.length ≤ 1000) : m_covered [dvG enM t] h = .ok (.ref h.length) (h ++ [.dct (tabG cvM (cov t))]) := by
  refine fnM_rt ?_
  show mb_covered [some (dvG enM t), none, none, none, none] h = _
  have e1 : dcOut (fun _ => true) (.tp [.nm 1, .nm 2]) li_covered_0 (.tp [.nm 3, .nm 4]) [3, 4] le_covered_0 le_covered_1 (t.map fun p => .tup [.int p.1, enM p.2]) (clrL [1, 2, 3, 4] [some (dvG enM t), none, none, none, none]) h = .ok (t.flatMap fun p => (parts p.1 p.2).map fun y => (.int y.1, cvM y.2)) h :=
    dcOut_map h (q2 := fun p : Int × Cv => .tup [.int p.1, cvM p.2]) fun p hp => ⟨_, rfl, by
      have := parts_F h p.1 p.2
      simp [li_covered_0, clrL, iL, this, itL], fun y hy => ⟨_, rfl, by simp [le_covered_0, clrL], by simp [le_covered_1, clrL]⟩⟩
  have e2 : (t.flatMap fun p => (parts p.1 p.2).map fun y => (MV.int y.1, cvM y.2)) = tabG cvM (cvs t) := by
    unfold tabG cvs
    rw [List.map_flatMap]
  have e3 := itI_dvG h enM t
  have len : (cvs t).length ≤ SZ := Nat.le_trans (len_cvs t) (Nat.le_trans (show 4 * t.length ≤ 4000 by omega) (by decide))
  have ok : (keysOk (tabG cvM (cvs t)) && decide ((tabG cvM (cvs t)).length ≤ SZ)) = true := by rw [keysOk_tabG, len_tabG, decide_eq_true len]; rfl
  have e4 : putAll [] (tabG cvM (cvs t)) = tabG cvM (cov t) := putAll_tabG cvM [] (cvs t)
  rw [e2] at e1
  simp only [mb_covered, sRet, mDc2, iI, mVar, List.getElem?_cons_zero, bindR_ok, e3, e1, ok, if_true, e4, finDR, bindS_ok]
theorem asD_newG {α : Type} (enc : α → MV) (t : As α) : asD (.ref h.length) (h ++ [.dct (tabG enc t)]) = some (tabG enc t) := by unfold asD; simp only [get_new]
theorem cF_dctG {α : Type} [DecidableEq α] {enc : α → MV} {dat : α → PyData} (D : Dat enc dat) {n : Nat} {m : List MV → MH → R MV} {as : List MV} {t : As α} (hl : as.length = n) (e : m as h = .ok (.ref h.length) (h ++ [.dct (tabG enc t)])) : cF n m as h = .ok (dvG enc t) h := by
  unfold cF
  rw [if_pos hl, e, bindR_ok]
  unfold gcF
  rw [if_neg (by simp), if_pos (kept_app h _)]
  have p2 : pureVs ((tabG enc t).map (·.2)) = true := by
    unfold tabG
    rw [List.map_map]
    exact pures_map (f := fun p : Int × α => enc p.2) (fun p => D.pu p.2) t
  have : frV (h ++ [.dct (tabG enc t)]) h.length 12 (.ref h.length) = some (dvG enc t) := by
    rw [frV]
    have : clV h.length (.ref h.length) = false := by rw [clV]; simp
    rw [this]
    simp only [Bool.false_eq_true, if_false, get_new, frs_pure _ _ _ p2, Option.map_some]
    rw [fin_dvG]
  rw [this, take_app]
theorem covered_F {t : As En} (hl : t.length ≤ 1000) : cF 1 m_covered [dvG enM t] h = .ok (dvG cvM (cov t)) h := cF_dctG h dat_cv rfl (covered_i h hl)
theorem same_i {t u : As En} (ht : t.length ≤ 1000) (hu : u.length ≤ 1000) : m_same_said [dvG enM t, dvG enM u] h = .ok (.bl (deq (cov t) (cov u))) h := by
  refine fnM_rt ?_
  show mb_same_said [some (dvG enM t), some (dvG enM u)] h = _
  have e1 := covered_F h ht
  have e2 := covered_F h hu
  have e3 := eqA_tabG dat_cv (asD_dvG cvM (cov t) h) (asD_dvG cvM (cov u) h)
  simp only [mb_same_said, sRet, m2, mN, mCons, mVar, mNil, List.getElem?_cons_zero, List.getElem?_cons_succ, bindR_ok, e1, e2, e3, bindS_ok]
theorem same_F {t u : As En} (ht : t.length ≤ 1000) (hu : u.length ≤ 1000) : cF 2 m_same_said [dvG enM t, dvG enM u] h = .ok (.bl (deq (cov t) (cov u))) h := cF_val0 rfl (same_i h ht hu)
end
end MP

/-! Plain: fits_great, can_be_great, is_table. -/
namespace MP
open PySem PySem.Spec PyProof.Rows L2
def isz (s : Int) : Bool := decide (8 ≤ s) && decide (s ≤ 64) && decide (s % 8 = 0)
theorem isz_le {s : Int} (hs : isz s = true) : 8 ≤ s ∧ s ≤ 64 ∧ s % 8 = 0 := by
  simp only [isz, Bool.and_eq_true, decide_eq_true_eq] at hs
  exact ⟨hs.1.1, hs.1.2, hs.2⟩
section
variable (s o f a lo hi : Int) (h : MH)
theorem inS_wS (w : Bool) : mInS (.str (wS w)) (.tup [.str (Str.ofString "read"), .str (Str.ofString "write")]) h = .ok (.bl true) h := by
  have : inV (.str (wS w)) [V.str (Str.ofString "read"), V.str (Str.ofString "write")] = true := by cases w <;> decide
  simp [mInS, mInSN, flatM, mapO, this]
theorem inS_gS (g : Bool) : mNotInS (.str (gS g)) (.tup [.str (Str.ofString "small"), .str (Str.ofString "great")]) h = .ok (.bl false) h := by
  have : inV (.str (gS g)) [V.str (Str.ofString "small"), V.str (Str.ofString "great")] = true := by cases g <;> decide
  simp [mNotInS, mInSN, flatM, mapO, this]
@[simp] theorem isStr_str (x : Str) : isT .str (.str x) h = .ok (.bl true) h := rfl
def enOk (s : Int) (e : En) : Prop := 0 ≤ e.f ∧ e.f ≤ s - 1 ∧ (e.g = true → e.f % 4 = 0)
end
section
variable {s : Int} {t : As En} (h : MH)
theorem in_dvG (t : As En) (x : Int) : mIn (.int x) (dvG enM t) h = .ok (.bl (lk t x).isSome) h := by
  unfold mIn mInX
  simp only [asD_dvG, mkey, look_tabG]
  cases lk t x <;> rfl
/-- a table of a size -/
structure Tab (s : Int) (t : As En) : Prop where
  nd : ndk t
  ad : ∀ a e, lk t a = some e → 0 ≤ a ∧ a ≤ 31
  ok : ∀ a e, lk t a = some e → enOk s e
  al : ∀ a e, lk t a = some e → e.g = true → a % 4 = 0 ∧ lk t (a + 1) = none ∧ lk t (a + 2) = none ∧ lk t (a + 3) = none
theorem Tab.len (T : Tab s t) : t.length ≤ 32 := by
  have key : ∀ {l D : List Int}, l.Nodup → (∀ x ∈ l, x ∈ D) → l.length ≤ D.length := fun {l D} nd h => nodup_le nd h
  have := key (D := (List.range 32).map fun i : Nat => (i : Int)) T.nd fun a ha => by
    cases e : lk t a with
    | none => exact absurd ha (lk_none.mp e)
    | some x =>
      have := T.ad a x e
      exact List.mem_map.mpr ⟨a.toNat, List.mem_range.mpr (by omega), by omega⟩
  simpa using this
/-- a stretch that fits -/
def fitB (t : As En) (a : Int) : Bool := match lk t a, lk t (a + 1), lk t (a + 2), lk t (a + 3) with
  | some e0, some e1, some e2, some e3 => !e0.g && !e1.g && !e2.g && !e3.g && decide (e0.f % 4 = 0) && decide (e1.f = e0.f + 1) && decide (e1.w = e0.w) && decide (e2.f = e0.f + 2) && decide (e2.w = e0.w) && decide (e3.f = e0.f + 3) && decide (e3.w = e0.w)
  | _, _, _, _ => false
def oM : Option En → MV
  | none => .non
  | some e => enM e
def oD : Option En → PyData
  | none => .none
  | some e => enD e
theorem noneIn_i (l : List (Option En)) : mIn .non (.lv (l.map oM)) h = .ok (.bl (l.any Option.isNone)) h := by
  have e1 : toD h 12 (.lv (l.map oM)) = some (.list (l.map oD)) := by
    have e : mapO (toD h 11) (l.map oM) = some (l.map oD) := mapO_map fun x _ => by cases x <;> rfl
    rw [toD, e]; rfl
  have e2 : toD h 12 .non = some .none := rfl
  have e0 : asD (.lv (l.map oM)) h = none := rfl
  have sh : SeqAt.shaped (.list (l.map oD)) = true := by
    have lay : ∀ l : List (Option En), PyData.canLayAll0 (l.map oD) = true := by
      intro l
      induction l with
      | nil => rfl
      | cons x l ih =>
        rw [List.map_cons, PyData.canLayAll0, ih]
        cases x with
        | none => rfl
        | some e =>
          have := (shaped_lay (dat_en.sh e)).1
          show (PyData.canLay0 (enD e) && true) = true
          rw [this]; rfl
    have dep := depthAll_map_le (f := oD) (n := 1) (fun x => by cases x <;> simp [oD, enD, PyData.depth, PyData.depthAll]) l
    simp [SeqAt.shaped, PyData.canLay0, lay, PyData.depth]
    omega
  have an : ((l.map oD).any fun z => PyData.eqv z .none) = l.any Option.isNone := by
    rw [List.any_map]
    congr 1
    funext x
    cases x <;> simp [oD, enD, PyData.eqv]
  unfold mIn mInX inL
  simp only [e0, e1, e2, sh, show SeqAt.shaped .none = true from rfl, Bool.and_self, if_true, an]
  rfl
end
end MP

namespace MP
open PySem PySem.Spec PyProof.Rows L2
section
variable {s : Int} {t : As En} (h : MH)
theorem get1_dvG (t : As En) (x : Int) : mDGet1 (.int x) (.int x) h = .bad → True := fun _ => trivial
theorem dget1_i (t : As En) (x : Int) : mDGet1 (dvG enM t) (.int x) h = .ok (oM (lk t x)) h := by
  unfold mDGet1
  simp only [asD_dvG, mkey, look_tabG]
  cases lk t x <;> rfl
theorem isDk_dvG {α : Type} (enc : α → MV) (t : As α) : isDk (dvG enc t) h = true := by
  unfold isDk
  rw [asD_dvG]; rfl
theorem eq_pair (f f' : Int) (w w' : Bool) : mEqA (.tup [.int f, .str (wS w)]) (.tup [.int f', .str (wS w')]) h = .ok (.bl (decide (f = f') && decide (w = w'))) h := mEqA_ok (by
  have e1 : toD h 12 (.tup [.int f, .str (wS w)]) = some (cvD (f, w)) := rfl
  have e2 : toD h 12 (.tup [.int f', .str (wS w')]) = some (cvD (f', w')) := rfl
  have q := dat_cv.eq (f, w) (f', w')
  unfold mEq eqMV
  simp only [e1, e2, dat_cv.sh, Bool.and_self, if_true, q]
  by_cases z1 : f = f' <;> by_cases z2 : w = w' <;> simp [z1, z2])
theorem sl_en (e : En) : mSl finV (enM e) (some 1) none h = .ok (.tup [.int e.f, .str (wS e.w)]) h := rfl
theorem fits_i (t : As En) (a : Int) : m_fits_great [dvG enM t, .int a] h = .ok (.bl (fitB t a)) h := by
  refine fnM_rt ?_
  show mb_fits_great [some (dvG enM t), some (.int a), none, none, none, none, none] h = _
  have in4 : inB 4 = true := rfl
  have len4 : (rgM 0 1 4).length ≤ SZ := by decide
  have lc : lcGo (fun _ => true) (.nm 5) mYes le_fits_great_2 (rgM 0 1 4) (clrL [5] [some (dvG enM t), some (.int a), none, none, none, none, none]) h = .ok ([lk t a, lk t (a + 1), lk t (a + 2), lk t (a + 3)].map oM) h := by
    have r : rgM 0 1 4 = [.int 0, .int 1, .int 2, .int 3] := rfl
    have d0 := dget1_i h t a
    have d1 := dget1_i h t (a + 1)
    have d2 := dget1_i h t (a + 2)
    have d3 := dget1_i h t (a + 3)
    have k := isDk_dvG h enM t
    rw [r]
    simp [lcGo, asP, clrL, le_fits_great_2, m2D, k, d0, d1, d2, d3]
  unfold mb_fits_great
  refine (seq_nx (σ1 := [some (dvG enM t), some (.int a), some (.lv ([lk t a, lk t (a + 1), lk t (a + 2), lk t (a + 3)].map oM)), none, none, none, none]) (h1 := h) (by simp [c_STRETCH, mLc, in4, len4, lc, -List.map_cons])).trans ?_
  have ni := noneIn_i h [lk t a, lk t (a + 1), lk t (a + 2), lk t (a + 3)]
  by_cases hn : ([lk t a, lk t (a + 1), lk t (a + 2), lk t (a + 3)].any Option.isNone) = true
  · rw [hn] at ni
    have fb : fitB t a = false := by
      unfold fitB
      cases e0 : lk t a <;> cases e1 : lk t (a + 1) <;> cases e2 : lk t (a + 2) <;> cases e3 : lk t (a + 3) <;> first | rfl | (simp [e0, e1, e2, e3] at hn)
    rw [fb]
    generalize ([lk t a, lk t (a + 1), lk t (a + 2), lk t (a + 3)].map oM) = L at ni ⊢
    simp [ni]
  · have hn' : ([lk t a, lk t (a + 1), lk t (a + 2), lk t (a + 3)].any Option.isNone) = false := (Bool.not_eq_true _).mp hn
    rw [hn'] at ni
    obtain ⟨e0, e1, e2, e3, q0, q1, q2, q3⟩ : ∃ e0 e1 e2 e3, lk t a = some e0 ∧ lk t (a + 1) = some e1 ∧ lk t (a + 2) = some e2 ∧ lk t (a + 3) = some e3 := by
      cases e0 : lk t a <;> cases e1 : lk t (a + 1) <;> cases e2 : lk t (a + 2) <;> cases e3 : lk t (a + 3) <;> first | exact ⟨_, _, _, _, rfl, rfl, rfl, rfl⟩ | (simp [e0, e1, e2, e3] at hn')
    have fb : fitB t a = (!e0.g && !e1.g && !e2.g && !e3.g && decide (e0.f % 4 = 0) && decide (e1.f = e0.f + 1) && decide (e1.w = e0.w) && decide (e2.f = e0.f + 2) && decide (e2.w = e0.w) && decide (e3.f = e0.f + 3) && decide (e3.w = e0.w)) := by
      unfold fitB
      rw [q0, q1, q2, q3]
    rw [fb]
    rw [q0, q1, q2, q3] at ni ⊢
    have mm : [some e0, some e1, some e2, some e3].map oM = [enM e0, enM e1, enM e2, enM e3] := rfl
    rw [mm] at ni ⊢
    clear lc hn hn' fb mm
    have l1 : lcGo (fun _ => true) (.nm 6) mYes le_fits_great_1 [enM e0, enM e1, enM e2, enM e3] (clrL [6] [some (dvG enM t), some (.int a), some (.lv [enM e0, enM e1, enM e2, enM e3]), none, none, none, none]) h = .ok ([e0, e1, e2, e3].map fun e => .bl (!e.g)) h :=
      lcGo_all (l := [e0, e1, e2, e3]) (q := enM) rfl fun e he => ⟨_, rfl, by
        have i0 := ix0_en e h
        simp [le_fits_great_1, clrL, i0]⟩
    have al : mAll [.lv ([e0, e1, e2, e3].map fun e => .bl (!e.g))] h = .ok (.bl (!e0.g && !e1.g && !e2.g && !e3.g)) h := by
      show R.ok (MV.bl ([!e0.g, !e1.g, !e2.g, !e3.g].all id)) h = _
      simp [Bool.and_assoc]
    have z4 : 4 ≤ SZ := by decide
    have len : [enM e0, enM e1, enM e2, enM e3].length ≤ SZ := z4
    by_cases hg : (!e0.g && !e1.g && !e2.g && !e3.g) = true
    · rw [hg] at al ⊢
      have ix : mIxA (.lv [enM e0, enM e1, enM e2, enM e3]) (.int 0) h = .ok (enM e0) h := rfl
      have sl := sl_en h e0
      have md := mod_int e0.f 4 h (by decide)
      refine (seq_nx (σ1 := [some (dvG enM t), some (.int a), some (.lv [enM e0, enM e1, enM e2, enM e3]), none, none, none, none]) (h1 := h) ?_).trans ?_
      · generalize hL : [enM e0, enM e1, enM e2, enM e3] = L at *
        generalize [e0, e1, e2, e3].map (fun e => MV.bl (!e.g)) = B at *
        simp [ni, mLc, itL, len, l1, al]
      refine (seq_nx (σ1 := [some (dvG enM t), some (.int a), some (.lv [enM e0, enM e1, enM e2, enM e3]), some (.int e0.f), some (.str (wS e0.w)), none, none]) (h1 := h) (by simp [ix, sl])).trans ?_
      by_cases hf : e0.f % 4 = 0
      · refine (seq_nx (σ1 := [some (dvG enM t), some (.int a), some (.lv [enM e0, enM e1, enM e2, enM e3]), some (.int e0.f), some (.str (wS e0.w)), none, none]) (h1 := h) (by simp [c_STRETCH, md, hf])).trans ?_
        have en : itE [.lv [enM e0, enM e1, enM e2, enM e3]] h = .ok ([.tup [.int 0, enM e0], .tup [.int 1, enM e1], .tup [.int 2, enM e2], .tup [.int 3, enM e3]], fun _ => true) h := rfl
        have z2 : 2 ≤ SZ := by decide
        have s0 := sl_en h e0
        have s1 := sl_en h e1
        have s2 := sl_en h e2
        have s3 := sl_en h e3
        have p0 := eq_pair h e0.f e0.f e0.w e0.w
        have p1 := eq_pair h e1.f (e0.f + 1) e1.w e0.w
        have p2 := eq_pair h e2.f (e0.f + 2) e2.w e0.w
        have p3 := eq_pair h e3.f (e0.f + 3) e3.w e0.w
        have l2 : lcGo (fun _ => true) (.tp [.nm 5, .nm 6]) mYes le_fits_great_0 [.tup [.int 0, enM e0], .tup [.int 1, enM e1], .tup [.int 2, enM e2], .tup [.int 3, enM e3]] (clrL [5, 6] [some (dvG enM t), some (.int a), some (.lv [enM e0, enM e1, enM e2, enM e3]), some (.int e0.f), some (.str (wS e0.w)), none, none]) h = .ok [.bl true, .bl (decide (e1.f = e0.f + 1) && decide (e1.w = e0.w)), .bl (decide (e2.f = e0.f + 2) && decide (e2.w = e0.w)), .bl (decide (e3.f = e0.f + 3) && decide (e3.w = e0.w))] h := by
          simp [lcGo, asP, asPs, clrL, le_fits_great_0, s0, s1, s2, s3, z2, p0, p1, p2, p3]
        have al2 : mAll [.lv [.bl true, .bl (decide (e1.f = e0.f + 1) && decide (e1.w = e0.w)), .bl (decide (e2.f = e0.f + 2) && decide (e2.w = e0.w)), .bl (decide (e3.f = e0.f + 3) && decide (e3.w = e0.w))]] h = .ok (.bl (decide (e1.f = e0.f + 1) && decide (e1.w = e0.w) && decide (e2.f = e0.f + 2) && decide (e2.w = e0.w) && decide (e3.f = e0.f + 3) && decide (e3.w = e0.w))) h := by
          show R.ok (MV.bl ([true, decide (e1.f = e0.f + 1) && decide (e1.w = e0.w), decide (e2.f = e0.f + 2) && decide (e2.w = e0.w), decide (e3.f = e0.f + 3) && decide (e3.w = e0.w)].all id)) h = _
          simp [Bool.and_assoc]
        have fin : (true && decide (e0.f % 4 = 0) && decide (e1.f = e0.f + 1) && decide (e1.w = e0.w) && decide (e2.f = e0.f + 2) && decide (e2.w = e0.w) && decide (e3.f = e0.f + 3) && decide (e3.w = e0.w)) = (decide (e1.f = e0.f + 1) && decide (e1.w = e0.w) && decide (e2.f = e0.f + 2) && decide (e2.w = e0.w) && decide (e3.f = e0.f + 3) && decide (e3.w = e0.w)) := by simp [hf]
        rw [fin]
        simp only [sRet, mN, mCons, mLc, iE, mVar, List.getElem?_cons_succ, List.getElem?_cons_zero, mNil, bindR_ok, en, List.length_cons, List.length_nil, if_pos z4, l2, finV, al2, bindS_ok]
      · have fin : (true && decide (e0.f % 4 = 0) && decide (e1.f = e0.f + 1) && decide (e1.w = e0.w) && decide (e2.f = e0.f + 2) && decide (e2.w = e0.w) && decide (e3.f = e0.f + 3) && decide (e3.w = e0.w)) = false := by simp [hf]
        rw [fin]
        simp [c_STRETCH, md, hf]
    · have hg' : (!e0.g && !e1.g && !e2.g && !e3.g) = false := by simpa using hg
      rw [hg'] at al ⊢
      simp only [Bool.false_and]
      generalize hL : [enM e0, enM e1, enM e2, enM e3] = L at *
      generalize [e0, e1, e2, e3].map (fun e => MV.bl (!e.g)) = B at *
      simp [ni, mLc, itL, len, l1, al]
def FI : List Int := [0, 4, 8, 12, 16, 20, 24, 28]
def fitL (t : As En) : List Int := FI.filter (fitB t)
theorem can_i (t : As En) : m_can_be_great [dvG enM t] h = .ok (.ref h.length) (h ++ [.lst ((fitL t).map .int)]) := by
  refine fnM_rt ?_
  show mb_can_be_great [some (dvG enM t), none] h = _
  have ok : (inB 0 && inB 32 && decide ((0 : Int) < 4) && decide ((4 : Int) < 1000000)) = true := rfl
  have rs : rgM 0 4 (Builtin.Range.rangeSize 0 32 4).toNat = FI.map .int := rfl
  have len : (FI.map MV.int).length ≤ SZ := by decide
  have lc : lcGo (fun _ => true) (.nm 1) lt_can_be_great_0 le_can_be_great_0 (FI.map .int) (clrL [1] [some (dvG enM t), none]) h = .ok ((fitL t).map .int) h :=
    lcGo_map rfl fun a ha => ⟨_, rfl, by
      have := cF_val0 (n := 2) rfl (fits_i h t a)
      simp [lt_can_be_great_0, clrL, this], fun _ => by simp [le_can_be_great_0, clrL]⟩
  have it : itR3 [.int 0, .int 32, .int 4] h = .ok (FI.map .int, fun _ => true) h := by
    unfold itR3
    simp only [ok, if_true, rs]
  simp only [mb_can_be_great, sRet, mLc, mCons, mC, c_MOST_ADDRESS, m2, c_STRETCH, add_int, mNil, bindR_ok, Int.reduceAdd, it, if_pos len, lc, finR, bindS_ok]
theorem can_F (t : As En) : cF 1 m_can_be_great [dvG enM t] h = .ok (.lv ((fitL t).map .int)) h := cF_new rfl (can_i h t) (pure_ints _)
theorem can_R (t : As En) : cR 1 m_can_be_great [dvG enM t] h = .ok (.ref h.length) (h ++ [.lst ((fitL t).map .int)]) := cR_new rfl (can_i h t) (pure_ints _)
end
end MP

/-! Plain: what tables say; one entry otherwise, bound, parted. -/
namespace MP
open PySem PySem.Spec PyProof.Rows L2
theorem pta_some {α : Type} {u : As α} {x : Int} {y : α} (h : ∀ p ∈ u, p.1 = x → p.2 = y) (he : ∃ p ∈ u, p.1 = x) (acc : As α) : lk (pta acc u) x = some y := by
  induction u generalizing acc with
  | nil => obtain ⟨p, hp, _⟩ := he; simp at hp
  | cons p u ih =>
    have e0 : pta acc (p :: u) = pta (pt acc p.1 p.2) u := rfl
    rw [e0]
    by_cases hu : ∃ q ∈ u, q.1 = x
    · exact ih (fun q hq => h q (List.mem_cons_of_mem _ hq)) hu _
    · have none : ∀ (u : As α) (acc : As α), (¬ ∃ q ∈ u, q.1 = x) → lk (pta acc u) x = lk acc x := by
        intro u
        induction u with
        | nil => intro acc _; rfl
        | cons q u ih2 =>
          intro acc hq
          have e1 : pta acc (q :: u) = pta (pt acc q.1 q.2) u := rfl
          rw [e1, ih2 _ fun ⟨r, hr, e⟩ => hq ⟨r, List.mem_cons_of_mem _ hr, e⟩, lk_pt, if_neg fun e => hq ⟨q, List.mem_cons_self, e⟩]
      rw [none u _ hu, lk_pt]
      obtain ⟨q, hq, e⟩ := he
      rcases List.mem_cons.mp hq with rfl | hq
      · rw [if_pos e, h q List.mem_cons_self e]
      · exact absurd ⟨q, hq, e⟩ hu
theorem pta_none {α : Type} {u : As α} {x : Int} (h : ∀ p ∈ u, p.1 ≠ x) (acc : As α) : lk (pta acc u) x = lk acc x := by
  induction u generalizing acc with
  | nil => rfl
  | cons q u ih =>
    have e1 : pta acc (q :: u) = pta (pt acc q.1 q.2) u := rfl
    rw [e1, ih (fun p hp => h p (List.mem_cons_of_mem _ hp)), lk_pt, if_neg (h q List.mem_cons_self)]
/-- what is said of an address -/
def cvF (t : As En) (x : Int) : Option Cv := match lk t x with
  | some e => some (e.f, e.w)
  | none => match lk t (x - x % 4) with
    | some e => if e.g then some (e.f + x % 4, e.w) else none
    | none => none
section
variable {s : Int} {t : As En}
theorem cvs_mem (T : Tab s t) {p : Int × Cv} (h : p ∈ cvs t) : cvF t p.1 = some p.2 := by
  obtain ⟨⟨a, e⟩, hae, hp⟩ := List.mem_flatMap.mp h
  have l := lk_of T.nd hae
  unfold parts at hp
  obtain ⟨i, hi, rfl⟩ := List.mem_map.mp hp
  have hi := List.mem_range.mp hi
  unfold many at hi
  show cvF t (a + (i : Nat)) = some (e.f + (i : Nat), e.w)
  cases hg : e.g with
  | false =>
    rw [hg] at hi
    have : i = 0 := by simpa using hi
    subst this
    unfold cvF
    simp [l]
  | true =>
    rw [hg] at hi
    simp only [if_true] at hi
    obtain ⟨b1, b2, b3, b4⟩ := T.al a e l hg
    have hi4 : i = 0 ∨ i = 1 ∨ i = 2 ∨ i = 3 := by omega
    have m : ∀ k : Int, 0 ≤ k → k < 4 → (a + k) % 4 = k ∧ a + k - k = a := fun k k0 k1 => by omega
    rcases hi4 with rfl | rfl | rfl | rfl
    · unfold cvF; simp [l]
    · unfold cvF
      obtain ⟨c1, c2⟩ := m 1 (by omega) (by omega)
      simp [b2, c1, c2, l, hg]
    · unfold cvF
      obtain ⟨c1, c2⟩ := m 2 (by omega) (by omega)
      simp [b3, c1, c2, l, hg]
    · unfold cvF
      obtain ⟨c1, c2⟩ := m 3 (by omega) (by omega)
      simp [b4, c1, c2, l, hg]
theorem cvs_ex (T : Tab s t) {x : Int} {c : Cv} (h : cvF t x = some c) : ∃ p ∈ cvs t, p.1 = x := by
  unfold cvF at h
  cases e1 : lk t x with
  | some e =>
    refine ⟨(x + ((0 : Nat) : Int), (e.f + ((0 : Nat) : Int), e.w)), List.mem_flatMap.mpr ⟨(x, e), lk_mem e1, List.mem_map.mpr ⟨0, List.mem_range.mpr ?_, rfl⟩⟩, by simp⟩
    unfold many
    split <;> omega
  | none =>
    simp only [e1] at h
    cases e2 : lk t (x - x % 4) with
    | none => simp only [e2] at h; cases h
    | some e =>
      simp only [e2] at h
      split at h
      · rename_i hg
        have r0 := Int.emod_nonneg x (show (4 : Int) ≠ 0 by decide)
        have r1 := Int.emod_lt_of_pos x (show (0 : Int) < 4 by decide)
        refine ⟨(x - x % 4 + (((x % 4).toNat : Nat) : Int), (e.f + (((x % 4).toNat : Nat) : Int), e.w)), List.mem_flatMap.mpr ⟨(x - x % 4, e), lk_mem e2, List.mem_map.mpr ⟨(x % 4).toNat, List.mem_range.mpr ?_, rfl⟩⟩, ?_⟩
        · unfold many
          rw [hg]
          simp only [if_true]
          omega
        · show x - x % 4 + (((x % 4).toNat : Nat) : Int) = x
          omega
      · cases h
theorem cov_lk (T : Tab s t) (x : Int) : lk (cov t) x = cvF t x := by
  unfold cov
  cases h : cvF t x with
  | some c => exact pta_some (fun p hp e => by have := cvs_mem T hp; rw [e, h] at this; exact (Option.some.inj this).symm) (cvs_ex T h) []
  | none => exact pta_none (fun p hp e => by have := cvs_mem T hp; rw [e, h] at this; cases this) []
theorem cov_nd (t : As En) : ndk (cov t) := ndk_pta (t := []) (show ([] : List Int).Nodup from List.Pairwise.nil) _
theorem cov_same {u : As En} (T : Tab s t) (U : Tab s u) (h : ∀ x, cvF t x = cvF u x) : deq (cov t) (cov u) = true := deq_true (cov_nd t) (cov_nd u) fun a => by rw [cov_lk T, cov_lk U, h]
/-- an entry put that is small, where no great one covers -/
theorem tab_small (T : Tab s t) {a : Int} {e : En} (h0 : 0 ≤ a) (h1 : a ≤ 31) (ok : enOk s e) (hg : e.g = false) (free : ∀ e', lk t (a - a % 4) = some e' → e'.g = true → a % 4 = 0) : Tab s (pt t a e) := by
  refine ⟨ndk_pt T.nd a e, fun b x h => ?_, fun b x h => ?_, fun b x h g => ?_⟩
  · rw [lk_pt] at h
    split at h
    · rename_i z; subst z; exact ⟨h0, h1⟩
    · exact T.ad b x h
  · rw [lk_pt] at h
    split at h
    · cases h; exact ok
    · exact T.ok b x h
  · rw [lk_pt] at h
    split at h
    · cases h; rw [hg] at g; cases g
    · rename_i ne
      obtain ⟨b1, b2, b3, b4⟩ := T.al b x h g
      have key : ∀ k : Int, 0 < k → k < 4 → a ≠ b + k := fun k k0 k1 z => by
        have e1 : a - a % 4 = b := by omega
        have e2 := free x (by rw [e1]; exact h) g
        omega
      refine ⟨b1, ?_, ?_, ?_⟩
      · rw [lk_pt, if_neg (key 1 (by omega) (by omega))]; exact b2
      · rw [lk_pt, if_neg (key 2 (by omega) (by omega))]; exact b3
      · rw [lk_pt, if_neg (key 3 (by omega) (by omega))]; exact b4
theorem tab_great (T : Tab s t) {a : Int} {e : En} (h0 : 0 ≤ a) (h1 : a ≤ 31) (ok : enOk s e) (ha : a % 4 = 0) (n1 : lk t (a + 1) = none) (n2 : lk t (a + 2) = none) (n3 : lk t (a + 3) = none) : Tab s (pt t a e) := by
  refine ⟨ndk_pt T.nd a e, fun b x h => ?_, fun b x h => ?_, fun b x h g => ?_⟩
  · rw [lk_pt] at h
    split at h
    · rename_i z; subst z; exact ⟨h0, h1⟩
    · exact T.ad b x h
  · rw [lk_pt] at h
    split at h
    · cases h; exact ok
    · exact T.ok b x h
  · rw [lk_pt] at h
    split at h
    · rename_i z
      subst z
      refine ⟨ha, ?_, ?_, ?_⟩
      · rw [lk_pt, if_neg (by omega)]; exact n1
      · rw [lk_pt, if_neg (by omega)]; exact n2
      · rw [lk_pt, if_neg (by omega)]; exact n3
    · obtain ⟨b1, b2, b3, b4⟩ := T.al b x h g
      refine ⟨b1, ?_, ?_, ?_⟩
      · rw [lk_pt, if_neg (by omega)]; exact b2
      · rw [lk_pt, if_neg (by omega)]; exact b3
      · rw [lk_pt, if_neg (by omega)]; exact b4
theorem tab_drop (T : Tab s t) (a : Int) : Tab s (dp t a) := by
  have l := lk_dp T.nd a
  have sub : ∀ b x, lk (dp t a) b = some x → lk t b = some x := fun b x h => by
    rw [l] at h
    split at h
    · cases h
    · exact h
  have non : ∀ b, lk t b = none → lk (dp t a) b = none := fun b h => by
    rw [l]
    split
    · rfl
    · exact h
  exact ⟨ndk_dp T.nd a, fun b x h => T.ad b x (sub b x h), fun b x h => T.ok b x (sub b x h), fun b x h g => by
    obtain ⟨b1, b2, b3, b4⟩ := T.al b x (sub b x h) g
    exact ⟨b1, non _ b2, non _ b3, non _ b4⟩⟩
/-- a stretch that fits, told -/
theorem fit_iff {a : Int} : fitB t a = true ↔ ∃ f w, f % 4 = 0 ∧ lk t a = some ⟨false, f, w⟩ ∧ lk t (a + 1) = some ⟨false, f + 1, w⟩ ∧ lk t (a + 2) = some ⟨false, f + 2, w⟩ ∧ lk t (a + 3) = some ⟨false, f + 3, w⟩ := by
  unfold fitB
  constructor
  · intro h
    cases e0 : lk t a with
    | none => simp only [e0] at h; cases h
    | some x0 =>
      cases e1 : lk t (a + 1) with
      | none => simp only [e0, e1] at h; cases h
      | some x1 =>
        cases e2 : lk t (a + 2) with
        | none => simp only [e0, e1, e2] at h; cases h
        | some x2 =>
          cases e3 : lk t (a + 3) with
          | none => simp only [e0, e1, e2, e3] at h; cases h
          | some x3 =>
            simp only [e0, e1, e2, e3, Bool.and_eq_true, Bool.not_eq_true', decide_eq_true_eq] at h
            obtain ⟨⟨⟨⟨⟨⟨⟨⟨⟨⟨g0, g1⟩, g2⟩, g3⟩, m⟩, f1⟩, w1⟩, f2⟩, w2⟩, f3⟩, w3⟩ := h
            obtain ⟨a0, b0, c0⟩ := x0
            obtain ⟨a1, b1, c1⟩ := x1
            obtain ⟨a2, b2, c2⟩ := x2
            obtain ⟨a3, b3, c3⟩ := x3
            simp only at *
            subst g0 g1 g2 g3 f1 w1 f2 w2 f3 w3
            exact ⟨b0, c3, m, rfl, rfl, rfl, rfl⟩
  · rintro ⟨f, w, m, e0, e1, e2, e3⟩
    rw [e0, e1, e2, e3]
    simp [m]
end
end MP

namespace MP
open PySem PySem.Spec PyProof.Rows L2
section
variable {s : Int} {t : As En} {a : Int}
def bnd4 (t : As En) (a : Int) (f : Int) (w : Bool) : As En := pt (dp (dp (dp (dp t a) (a + 1)) (a + 2)) (a + 3)) a ⟨true, f, w⟩
def prt4 (t : As En) (a : Int) (f : Int) (w : Bool) : As En := pta t [(a, ⟨false, f, w⟩), (a + 1, ⟨false, f + 1, w⟩), (a + 2, ⟨false, f + 2, w⟩), (a + 3, ⟨false, f + 3, w⟩)]
theorem bnd_lk (nd : ndk t) (f : Int) (w : Bool) (x : Int) : lk (bnd4 t a f w) x = if x = a then some ⟨true, f, w⟩ else if a < x ∧ x < a + 4 then none else lk t x := by
  unfold bnd4
  have n1 := ndk_dp nd a
  have n2 := ndk_dp n1 (a + 1)
  have n3 := ndk_dp n2 (a + 2)
  rw [lk_pt, lk_dp n3, lk_dp n2, lk_dp n1, lk_dp nd]
  by_cases z : a = x
  · have : x = a := z.symm
    simp [z]
  · have z' : ¬ x = a := fun e => z e.symm
    rw [if_neg z, if_neg z']
    by_cases z1 : a < x ∧ x < a + 4
    · rw [if_pos z1]
      split
      · rfl
      · split
        · rfl
        · split
          · rfl
          · omega
    · rw [if_neg z1, if_neg (by omega), if_neg (by omega), if_neg (by omega)]
      split
      · omega
      · rfl
theorem prt_lk (f : Int) (w : Bool) (x : Int) : lk (prt4 t a f w) x = if a ≤ x ∧ x < a + 4 then some ⟨false, f + (x - a), w⟩ else lk t x := by
  unfold prt4
  rw [lk_pta (by unfold ndk; simp; omega)]
  by_cases z : a ≤ x ∧ x < a + 4
  · rw [if_pos z]
    have : x = a ∨ x = a + 1 ∨ x = a + 2 ∨ x = a + 3 := by omega
    rcases this with rfl | rfl | rfl | rfl
    · simp [lk]
    · have h0 : ¬ a = a + 1 := by omega
      have : a + 1 - a = 1 := by omega
      simp [lk, h0, this]
    · have h0 : ¬ a = a + 2 := by omega
      have h1 : ¬ a + 1 = a + 2 := by omega
      have : a + 2 - a = 2 := by omega
      simp [lk, h0, h1, this]
    · have h0 : ¬ a = a + 3 := by omega
      have h1 : ¬ a + 1 = a + 3 := by omega
      have h2 : ¬ a + 2 = a + 3 := by omega
      have : a + 3 - a = 3 := by omega
      simp [lk, h0, h1, h2, this]
  · rw [if_neg z]
    have h0 : ¬ a = x := by omega
    have h1 : ¬ a + 1 = x := by omega
    have h2 : ¬ a + 2 = x := by omega
    have h3 : ¬ a + 3 = x := by omega
    simp [lk, h0, h1, h2, h3]
/-- what a stretch says, at its four addresses -/
theorem cv_at {u : As En} {b k : Int} (hb : b % 4 = 0) (h0 : 0 ≤ k) (h4 : k < 4) : cvF u (b + k) = match lk u (b + k) with
  | some e => some (e.f, e.w)
  | none => match lk u b with
    | some e => if e.g then some (e.f + k, e.w) else none
    | none => none := by
  unfold cvF
  have h1 : (b + k) % 4 = k := by omega
  have h2 : b + k - k = b := by omega
  rw [h1, h2]
  all_goals rfl
theorem cv_split (x : Int) : ∃ b k : Int, b % 4 = 0 ∧ 0 ≤ k ∧ k < 4 ∧ x = b + k := ⟨x - x % 4, x % 4, by omega, by omega, by omega, by omega⟩
structure Fit (t : As En) (a f : Int) (w : Bool) : Prop where
  m : f % 4 = 0
  e0 : lk t a = some ⟨false, f, w⟩
  e1 : lk t (a + 1) = some ⟨false, f + 1, w⟩
  e2 : lk t (a + 2) = some ⟨false, f + 2, w⟩
  e3 : lk t (a + 3) = some ⟨false, f + 3, w⟩
theorem Fit.of (h : fitB t a = true) : ∃ f w, Fit t a f w := by
  obtain ⟨f, w, m, e0, e1, e2, e3⟩ := fit_iff.mp h
  exact ⟨f, w, m, e0, e1, e2, e3⟩
theorem Fit.at {f : Int} {w : Bool} (F : Fit t a f w) {k : Int} (h0 : 0 ≤ k) (h4 : k < 4) : lk t (a + k) = some ⟨false, f + k, w⟩ := by
  have : k = 0 ∨ k = 1 ∨ k = 2 ∨ k = 3 := by omega
  rcases this with rfl | rfl | rfl | rfl
  · simpa using F.e0
  · exact F.e1
  · exact F.e2
  · exact F.e3
theorem Fit.to {f : Int} {w : Bool} (F : Fit t a f w) : fitB t a = true := fit_iff.mpr ⟨f, w, F.m, F.e0, F.e1, F.e2, F.e3⟩
variable {f : Int} {w : Bool}
theorem bnd_tab (T : Tab s t) (F : Fit t a f w) (ha : a % 4 = 0) : Tab s (bnd4 t a f w) := by
  have b := T.ad a _ F.e0
  have o := T.ok a _ F.e0
  have l := fun x => bnd_lk (t := t) (a := a) T.nd f w x
  refine ⟨ndk_pt (ndk_dp (ndk_dp (ndk_dp (ndk_dp T.nd _) _) _) _) _ _, fun x e h => ?_, fun x e h => ?_, fun x e h g => ?_⟩
  · rw [l] at h
    split at h
    · rename_i z; subst z; exact b
    · split at h
      · cases h
      · exact T.ad x e h
  · rw [l] at h
    split at h
    · cases h; exact ⟨o.1, o.2.1, fun _ => F.m⟩
    · split at h
      · cases h
      · exact T.ok x e h
  · rw [l] at h
    split at h
    · rename_i z
      subst z
      refine ⟨ha, ?_, ?_, ?_⟩ <;> rw [l, if_neg (by omega), if_pos (by omega)]
    · rename_i ne
      split at h
      · cases h
      · rename_i out
        obtain ⟨b1, b2, b3, b4⟩ := T.al x e h g
        have far : x + 3 < a ∨ a + 4 ≤ x := by omega
        refine ⟨b1, ?_, ?_, ?_⟩
        · rw [l, if_neg (by omega), if_neg (by omega)]; exact b2
        · rw [l, if_neg (by omega), if_neg (by omega)]; exact b3
        · rw [l, if_neg (by omega), if_neg (by omega)]; exact b4
theorem bnd_cv (T : Tab s t) (F : Fit t a f w) (ha : a % 4 = 0) (x : Int) : cvF (bnd4 t a f w) x = cvF t x := by
  have l := fun x => bnd_lk (t := t) (a := a) T.nd f w x
  obtain ⟨b, k, hb, k0, k4, rfl⟩ := cv_split x
  rw [cv_at hb k0 k4, cv_at hb k0 k4]
  by_cases z : b = a
  · subst z
    rw [F.at k0 k4]
    by_cases zk : k = 0
    · subst zk
      rw [l, if_pos (by omega)]
      simp
    · rw [l, if_neg (by omega), if_pos (by omega), l, if_pos rfl]
      simp
  · rw [l, l, if_neg (by omega), if_neg (by omega), if_neg (by omega), if_neg (by omega)]
theorem bnd_fit (T : Tab s t) (F : Fit t a f w) (ha : a % 4 = 0) {b : Int} (hb : b % 4 = 0) : fitB (bnd4 t a f w) b = (decide (b ≠ a) && fitB t b) := by
  have l := fun x => bnd_lk (t := t) (a := a) T.nd f w x
  unfold fitB
  by_cases z : b = a
  · subst z
    rw [l, if_pos rfl, l, if_neg (by omega), if_pos (by omega)]
    simp
  · rw [l, l, l, l]
    rw [if_neg (by omega), if_neg (by omega), if_neg (by omega), if_neg (by omega), if_neg (by omega), if_neg (by omega), if_neg (by omega), if_neg (by omega)]
    simp [z]
/-- parted again: the first one -/
theorem prt_bnd (T : Tab s t) (F : Fit t a f w) (x : Int) : lk (prt4 (bnd4 t a f w) a f w) x = lk t x := by
  rw [prt_lk, bnd_lk T.nd]
  by_cases z : a ≤ x ∧ x < a + 4
  · rw [if_pos z]
    have := F.at (k := x - a) (by omega) (by omega)
    rw [show a + (x - a) = x by omega] at this
    exact this.symm
  · rw [if_neg z, if_neg (by omega), if_neg (by omega)]
theorem prt_nd (nd : ndk t) : ndk (prt4 t a f w) := ndk_pta nd _
theorem prt_tab (hs : isz s = true) (T : Tab s t) (e : lk t a = some ⟨true, f, w⟩) : Tab s (prt4 t a f w) := by
  have hz := isz_le hs
  have l := fun x => prt_lk (t := t) (a := a) f w x
  obtain ⟨o1, o2, o3⟩ := T.ok a _ e
  have o3 := o3 rfl
  obtain ⟨ha, n1, n2, n3⟩ := T.al a _ e rfl
  have ad := T.ad a _ e
  have o1 : 0 ≤ f := o1
  have o2 : f ≤ s - 1 := o2
  have o3 : f % 4 = 0 := o3
  refine ⟨prt_nd T.nd, fun x y h => ?_, fun x y h => ?_, fun x y h g => ?_⟩
  · rw [l] at h
    split at h
    · omega
    · exact T.ad x y h
  · rw [l] at h
    split at h
    · cases h
      refine ⟨?_, ?_, fun z => by cases z⟩
      · show 0 ≤ f + (x - a); omega
      · show f + (x - a) ≤ s - 1; omega
    · exact T.ok x y h
  · rw [l] at h
    split at h
    · cases h; cases g
    · rename_i out
      obtain ⟨b1, b2, b3, b4⟩ := T.al x y h g
      have far : x + 3 < a ∨ a + 4 ≤ x := by omega
      refine ⟨b1, ?_, ?_, ?_⟩
      · rw [l, if_neg (by omega)]; exact b2
      · rw [l, if_neg (by omega)]; exact b3
      · rw [l, if_neg (by omega)]; exact b4
theorem prt_cv (T : Tab s t) (e : lk t a = some ⟨true, f, w⟩) (x : Int) : cvF (prt4 t a f w) x = cvF t x := by
  have l := fun x => prt_lk (t := t) (a := a) f w x
  obtain ⟨ha, n1, n2, n3⟩ := T.al a _ e rfl
  obtain ⟨b, k, hb, k0, k4, rfl⟩ := cv_split x
  rw [cv_at hb k0 k4, cv_at hb k0 k4]
  by_cases z : b = a
  · subst z
    rw [l, if_pos (by omega)]
    have : k = 0 ∨ k = 1 ∨ k = 2 ∨ k = 3 := by omega
    rcases this with rfl | rfl | rfl | rfl
    · simp [e]
    · have : b + 1 - b = 1 := by omega
      simp [n1, e, this]
    · have : b + 2 - b = 2 := by omega
      simp [n2, e, this]
    · have : b + 3 - b = 3 := by omega
      simp [n3, e, this]
  · rw [l, l, if_neg (by omega), if_neg (by omega)]
theorem prt_fit (T : Tab s t) (e : lk t a = some ⟨true, f, w⟩) {b : Int} (hb : b % 4 = 0) : fitB (prt4 t a f w) b = (decide (b = a) || fitB t b) := by
  have l := fun x => prt_lk (t := t) (a := a) f w x
  obtain ⟨ha, n1, n2, n3⟩ := T.al a _ e rfl
  obtain ⟨o1, o2, o3⟩ := T.ok a _ e
  by_cases z : b = a
  · subst z
    have F : Fit (prt4 t b f w) b f w := by
      refine ⟨o3 rfl, ?_, ?_, ?_, ?_⟩
      · rw [l, if_pos (by omega)]; simp
      · rw [l, if_pos (by omega), show b + 1 - b = 1 by omega]
      · rw [l, if_pos (by omega), show b + 2 - b = 2 by omega]
      · rw [l, if_pos (by omega), show b + 3 - b = 3 by omega]
    rw [F.to]; simp
  · unfold fitB
    rw [l, l, l, l, if_neg (by omega), if_neg (by omega), if_neg (by omega), if_neg (by omega)]
    simp [z]
/-- one of a stretch's frames or rights otherwise -/
theorem oth_fit (hs : isz s = true) (T : Tab s t) (F : Fit t a f w) (ha : a % 4 = 0) {k f' : Int} {w' : Bool} (k0 : 0 ≤ k) (k4 : k < 4) (ne : (f' = (f + k + 1) % s ∧ w' = w) ∨ (f' = f + k ∧ w' ≠ w)) :
    Tab s (pt t (a + k) ⟨false, f', w'⟩) ∧ deq (cov t) (cov (pt t (a + k) ⟨false, f', w'⟩)) = false ∧ fitB (pt t (a + k) ⟨false, f', w'⟩) a = false := by
  have hz := isz_le hs
  have lt := F.at k0 k4
  obtain ⟨o1, o2, _⟩ := T.ok _ _ lt
  have o1 : 0 ≤ f + k := o1
  have o2 : f + k ≤ s - 1 := o2
  have ad := T.ad _ _ lt
  have m := F.m
  have f0 : 0 ≤ f := (T.ok _ _ F.e0).1
  have f1 : f ≤ s - 1 := (T.ok _ _ F.e0).2.1
  have fe : ((f + k + 1) % s = f + k + 1 ∧ f + k < s - 1) ∨ ((f + k + 1) % s = 0 ∧ f + k = s - 1) := by
    by_cases z : f + k = s - 1
    · refine .inr ⟨?_, z⟩
      rw [show f + k + 1 = s by omega]; exact Int.emod_self
    · exact .inl ⟨Int.emod_eq_of_lt (by omega) (by omega), by omega⟩
  have ok : enOk s ⟨false, f', w'⟩ := by
    refine ⟨?_, ?_, fun z => by cases z⟩
    · show 0 ≤ f'
      rcases ne with ⟨h, _⟩ | ⟨h, _⟩
      · rcases fe with e | e <;> omega
      · omega
    · show f' ≤ s - 1
      rcases ne with ⟨h, _⟩ | ⟨h, _⟩
      · rcases fe with e | e <;> omega
      · omega
  have U : Tab s (pt t (a + k) ⟨false, f', w'⟩) := tab_small T ad.1 ad.2 ok rfl fun e' h g => by
    rw [show a + k - (a + k) % 4 = a by omega, F.e0] at h
    cases h; cases g
  have differ : ¬ (f' = f + k ∧ w' = w) := by
    rintro ⟨h1, h2⟩
    rcases ne with ⟨h, _⟩ | ⟨_, h⟩
    · rcases fe with e | e <;> omega
    · exact h h2
  have l := fun x => lk_pt t (a + k) x (⟨false, f', w'⟩ : En)
  refine ⟨U, ?_, ?_⟩
  · refine deq_false (a := a + k) (x := (f + k, w)) ?_ ?_
    · rw [cov_lk T]
      unfold cvF
      rw [lt]
    · rw [cov_lk U]
      unfold cvF
      rw [l, if_pos rfl]
      intro h
      simp only [Option.some.injEq, Prod.mk.injEq] at h
      exact differ h
  · cases h : fitB (pt t (a + k) ⟨false, f', w'⟩) a with
    | false => rfl
    | true =>
      exfalso
      obtain ⟨g, v, G⟩ := Fit.of h
      have gk := G.at k0 k4
      rw [l, if_pos rfl] at gk
      simp only [Option.some.injEq, En.mk.injEq, true_and] at gk
      -- another one of the four
      by_cases zk : k = 0
      · have e1 := G.e1
        rw [l, if_neg (by omega), F.e1] at e1
        simp only [Option.some.injEq, En.mk.injEq, true_and] at e1
        exact differ ⟨by omega, by rw [gk.2, e1.2]⟩
      · have e0 := G.e0
        rw [l, if_neg (by omega), F.e0] at e0
        simp only [Option.some.injEq, En.mk.injEq, true_and] at e0
        exact differ ⟨by omega, by rw [gk.2, e0.2]⟩
end
end MP

/-! Plain: the law's pool and draws; loops. -/
namespace MP
open PySem PySem.Spec PyProof.Rows L2
theorem forGo_list {chk : MH → Bool} {g : GM} {body : SM} {α : Type} {q : α → MV} (P : List α → Lo → MH → Prop) (step : ∀ x xs σ h, P (x :: xs) σ h → chk h = true ∧ ∃ σ1 h1, g (q x) σ h = .ok σ1 h1 ∧ ∃ σ2 h2, body σ1 h1 = .nx σ2 h2 ∧ P xs σ2 h2)
    (last : ∀ σ h, P [] σ h → chk h = true) : ∀ (l : List α) (σ : Lo) (h : MH), P l σ h → ∃ σ' h', forGo chk g body (l.map q) σ h = .nx σ' h' ∧ P [] σ' h'
  | [], σ, h, p => ⟨σ, h, by rw [List.map_nil, forGo, if_pos (last σ h p)], p⟩
  | x :: xs, σ, h, p => by
    obtain ⟨hc, σ1, h1, e1, σ2, h2, e2, p2⟩ := step x xs σ h p
    obtain ⟨σ', h', e, q'⟩ := forGo_list P step last xs σ2 h2 p2
    exact ⟨σ', h', by rw [List.map_cons, forGo, if_pos hc, e1]; simp only [e2]; exact e, q'⟩
theorem sGc_le {ks : List Nat} {b : SM} {σ σ2 : Lo} {h h2 : MH} (e : b σ h = .nx σ2 h2) (l : h2.length ≤ h.length) : sGc ks b σ h = .nx (killL ks σ2) h2 := by
  unfold sGc; rw [e]; simp only [gcL, if_pos l]
theorem asD_new (h : MH) (l : List (MV × MV)) : asD (.ref h.length) (h ++ [.dct l]) = some l := by unfold asD; simp only [get_new]
theorem setA_dct {rv ro ri : EM} {σ : Lo} {h : MH} {l : List (MV × MV)} {k v : MV} {kk : Key} (ev : rv σ (h ++ [MO.dct l]) = .ok v (h ++ [MO.dct l])) (eo : ro σ (h ++ [MO.dct l]) = .ok (.ref h.length) (h ++ [MO.dct l])) (ei : ri σ (h ++ [MO.dct l]) = .ok k (h ++ [MO.dct l])) (ek : mkey k = some kk) (z : l.length < SZ) (nd : nodK l = true) :
    sSetA rv ro ri σ (h ++ [MO.dct l]) = .nx σ (h ++ [MO.dct (putKV l k v)]) := by
  have e0 : isDct (.ref h.length) (h ++ [MO.dct l]) = true := by unfold isDct; simp only [get_new]
  unfold sSetA
  rw [ev, bindS_ok, eo, bindS_ok, ei, bindS_ok, e0]
  simp only [if_true, sSetDx, bindS_ok, get_new, ek, decide_eq_true z, nd, Bool.and_self, setH, set_new]
theorem pool_i (ns : List Int) (k : Int) (h0 : 0 ≤ k) (h1 : k < 1000) (h2 : ns.length ≤ 63) (h : MH) : ∃ a b : Int, m_law_pool [.fz (ns.map .int), .int k] h = .ok (.ref h.length) (h ++ [.lst [.int a, .int b]]) := by
  have el : mLen [.fz (ns.map .int)] h = .ok (.int ns.length) h := by
    show R.ok (MV.int (ns.map MV.int).length) h = _
    rw [List.length_map]
  have e7 : ∀ c : Int, mModI (.int c) (.int 2147483629) h = .ok (.int (c % 2147483629)) h := fun c => mod_int _ _ h (by decide)
  have e8 : ∀ c : Int, mModI (.int c) (.int 2147483647) h = .ok (.int (c % 2147483647)) h := fun c => mod_int _ _ h (by decide)
  have mm1 : mMul finV (.int 7919) (.int k) h = .ok (.int (7919 * k)) h := mul_int _ _ _ _ (.inl ⟨by decide, by decide⟩)
  have mm2 : mMul finV (.int (7919 * k)) (.int k) h = .ok (.int (7919 * k * k)) h := mul_int _ _ _ _ (.inr ⟨by omega, by omega⟩)
  have mm3 : mMul finV (.int 31) (.int k) h = .ok (.int (31 * k)) h := mul_int _ _ _ _ (.inl ⟨by decide, by decide⟩)
  have mm4 : ∀ c : Int, mMul finV (.int c) (.int 48271) h = .ok (.int (c * 48271)) h := fun c => mul_int _ _ _ _ (.inr ⟨by decide, by decide⟩)
  have ep : mPowI (.int 10) (.int 18) h = .ok (.int (10 ^ 18)) h := by
    simp [mPowI, iop]
  have ei : ∀ b : Bool, mInt [.bl b] h = .ok (.int (if b then 1 else 0)) h := fun _ => rfl
  have mm5 : ∀ (c : Int) (b : Bool), mMul finV (.int c) (.int (if b then 1 else 0)) h = .ok (.int (c * (if b then 1 else 0))) h := fun c b => mul_int _ _ _ _ (.inr ⟨by cases b <;> decide, by cases b <;> decide⟩)
  have key : ∀ c : Int, ∀ σ, σ = [some (.fz (ns.map .int)), some (.int k), some (.int c), none, none] → ∃ a b : Int, (sSeq (sSet 3 (mN mMax (mCons (mVar 2) (mCons (m2 mSubI (m1 mNeg (mC (.int 1))) (mVar 2)) mNil))))
    (sSeq (sSet 4 (m2 mModI (m2 (mMul finV) (m2 (mAdd finV) (m2 (mAdd finV) (m2 (mAdd finV) (m2 mModI (mVar 3) (mC (.int 2147483629))) (m2 (mMul finV) (m2 (mMul finV) (mC (.int 7919)) (mVar 1)) (mVar 1))) (m2 (mMul finV) (mC (.int 31)) (mVar 1))) (mC (.int 17))) (mC (.int 48271))) (mC (.int 2147483647))))
    (sRet (mN mkLst (mCons (m2 (mMul finV) (mVar 3) (mN mInt (mCons (m2 mGe (mVar 3) (m2 mPowI (mC (.int 10)) (mC (.int 18)))) mNil))) (mCons (mVar 4) mNil)))))) σ h = .rt (.ref h.length) (h ++ [.lst [.int a, .int b]]) := fun c σ hσ => by
    subst hσ
    simp only [sSeq, sSet, mN, mCons, mVar, mNil, m2, m1, mC, bindR_ok, bindS_ok, List.getElem?_cons_zero, List.getElem?_cons_succ, neg_int, sub_int, mMax, List.set_cons_succ, List.set_cons_zero, e7, e8, mm1, mm2, mm3, mm4, add_int, sRet, ge_int, ep, ei, mm5, mkLst, List.length_cons, List.length_nil, SZ]
    exact ⟨_, _, rfl⟩
  suffices T : ∃ a b : Int, mb_law_pool [some (.fz (ns.map .int)), some (.int k), none, none, none] h = .rt (.ref h.length) (h ++ [.lst [.int a, .int b]]) by
    obtain ⟨a, b, e⟩ := T
    exact ⟨a, b, fnM_rt e⟩
  unfold mb_law_pool
  by_cases z : k < ns.length
  · have eix : mIxA (.fz (ns.map .int)) (.int k) h = .ok (.int (ns[k.toNat]'(by omega))) h := by
      have e0 : isDk (.fz (ns.map .int)) h = false := rfl
      unfold mIxA
      rw [e0]
      simp only [Bool.false_eq_true, if_false]
      have hk : k.toNat < ns.length := by omega
      unfold mIx
      simp only [asS, atI, L2.ixN, List.length_map, if_pos h0, if_pos z, Option.bind_some, List.getElem?_map, List.getElem?_eq_getElem hk, Option.map_some]
    obtain ⟨a, b, e⟩ := key _ _ rfl
    refine ⟨a, b, ?_⟩
    rw [seq_nx (σ1 := [some (.fz (ns.map .int)), some (.int k), some (.int 0), none, none]) (h1 := h) (by simp), seq_nx (σ1 := [some (.fz (ns.map .int)), some (.int k), some (.int (ns[k.toNat]'(by omega))), none, none]) (h1 := h) (by simp [el, z, eix])]
    exact e
  · obtain ⟨a, b, e⟩ := key 0 _ rfl
    refine ⟨a, b, ?_⟩
    rw [seq_nx (σ1 := [some (.fz (ns.map .int)), some (.int k), some (.int 0), none, none]) (h1 := h) (by simp), seq_nx (σ1 := [some (.fz (ns.map .int)), some (.int k), some (.int 0), none, none]) (h1 := h) (by simp [el, z])]
    exact e
theorem ixA_lst {h : MH} {n : Nat} {l : List MV} {k : Int} {v : MV} (e : h[n]? = some (.lst l)) (ev : atI l k = some v) : mIxA (.ref n) (.int k) h = .ok v h := by
  have e0 : isDk (.ref n) h = false := by unfold isDk asD; simp only [e]; rfl
  unfold mIxA mIx asS
  rw [e0]
  simp only [Bool.false_eq_true, if_false, e, ev]
theorem setA_lst {rv ro ri : EM} {σ : Lo} {h : MH} {n j : Nat} {l : List MV} {k : Int} {v : MV} (ev : rv σ h = .ok v h) (eo : ro σ h = .ok (.ref n) h) (ei : ri σ h = .ok (.int k) h) (e : h[n]? = some (.lst l)) (ej : ixN l.length k = some j) : sSetA rv ro ri σ h = .nx σ (h.set n (.lst (l.set j v))) := by
  have e0 : isDct (.ref n) h = false := by unfold isDct; simp only [e]
  unfold sSetA
  rw [ev, bindS_ok, eo, bindS_ok, ei, bindS_ok, e0]
  simp only [Bool.false_eq_true, if_false, sSetIx, bindS_ok, e, ej, setH]
theorem draw_i {h : MH} {n : Nat} {a b m : Int} (e : h[n]? = some (.lst [.int a, .int b])) (hm : 0 < m) (hm2 : m < 1073741824) : ∃ d a' b' : Int, m_law_draw [.ref n, .int m] h = .ok (.int d) (h.set n (.lst [.int a', .int b'])) ∧ 0 ≤ d ∧ d < m := by
  have i0 : mIxA (.ref n) (.int 0) h = .ok (.int a) h := ixA_lst e rfl
  have i1 : mIxA (.ref n) (.int 1) h = .ok (.int b) h := ixA_lst e rfl
  by_cases z : 0 < a
  · refine ⟨a % m, a / m, b, ?_, Int.emod_nonneg _ (by omega), Int.emod_lt_of_pos _ hm⟩
    refine fnM_rt ?_
    have s1 : sSetA (m2 mDivI (m2 mIxA (mVar 0) (mC (.int 0))) (mVar 1)) (mVar 0) (mC (.int 0)) [some (.ref n), some (.int m), some (.int (a % m))] h = .nx [some (.ref n), some (.int m), some (.int (a % m))] (h.set n (.lst [.int (a / m), .int b])) :=
      setA_lst (v := .int (a / m)) (k := 0) (by simp [i0, div_int a m h hm hm2]) (by simp) rfl e rfl
    show mb_law_draw [some (.ref n), some (.int m), none] h = _
    simp [mb_law_draw, i0, z, mod_int a m h hm, s1]
  · generalize hb' : (b * 69621 + 7) % 2147483647 = b'
    have q1 : 0 ≤ b' := by rw [← hb']; exact Int.emod_nonneg _ (by decide)
    have q2 : b' < 2147483647 := by rw [← hb']; exact Int.emod_lt_of_pos _ (by decide)
    have e' : (h.set n (.lst [.int a, .int b']))[n]? = some (.lst [.int a, .int b']) := by
      obtain ⟨hn, _⟩ := List.getElem?_eq_some_iff.mp e
      rw [List.getElem?_set_self hn]
    generalize hh' : h.set n (.lst [.int a, .int b']) = h' at e'
    have i1' : mIxA (.ref n) (.int 1) h' = .ok (.int b') h' := ixA_lst e' rfl
    have s1 : sSetA (m2 mModI (m2 (mAdd finV) (m2 (mMul finV) (m2 mIxA (mVar 0) (mC (.int 1))) (mC (.int 69621))) (mC (.int 7))) (mC (.int 2147483647))) (mVar 0) (mC (.int 1)) [some (.ref n), some (.int m), none] h = .nx [some (.ref n), some (.int m), none] h' := by
      rw [← hh']
      refine setA_lst (v := .int b') (k := 1) (l := [.int a, .int b]) ?_ (by simp) rfl e rfl
      have mm := mul_int b 69621 h finV (.inr ⟨by decide, by decide⟩)
      have md := mod_int (b * 69621 + 7) 2147483647 h (by decide)
      simp [i1, mm, md, hb']
    refine ⟨b' * b' % 2147483629 / 32 % m, a, b', ?_, Int.emod_nonneg _ (by omega), Int.emod_lt_of_pos _ hm⟩
    rw [hh']
    refine fnM_rt ?_
    have mm := mul_int b' b' h' finV (.inl ⟨by omega, by omega⟩)
    have md := mod_int (b' * b') 2147483629 h' (by decide)
    have dv := div_int (b' * b' % 2147483629) 32 h' (by decide) (by decide)
    have mk := mod_int (b' * b' % 2147483629 / 32) m h' hm
    show mb_law_draw [some (.ref n), some (.int m), none] h = _
    simp [mb_law_draw, i0, z, s1, i1', mm, md, dv, mk]
theorem cF_keep {n : Nat} {m : List MV → MH → R MV} {as : List MV} {h h' : MH} {v : MV} (hl : as.length = n) (e : m as h = .ok v h') (q : h'.length ≤ h.length) : cF n m as h = .ok v h' := by
  unfold cF; rw [if_pos hl, e, bindR_ok]; unfold gcF; rw [if_pos q]
theorem sFor_rg1 {ra : AM} {g : GM} {b : SM} {σ : Lo} {h h1 : MH} {j : Int} (hA : ra σ h = .ok [.int j] h1) (hin : inB j = true) : sFor (fun σ h => bindR (ra σ h) itR1) g b σ h = forGo (fun _ => true) g b (rgM 0 1 j.toNat) σ h1 := by
  unfold sFor
  simp only [hA, bindR_ok, itR1_int hin, bindS_ok]
theorem setAt_self {α : Type} : ∀ {l : List α} {n : Nat} {x : α}, l[n]? = some x → l.set n x = l
  | [], n, x, e => by simp at e
  | a :: l, 0, x, e => by simp at e; subst e; rfl
  | a :: l, n + 1, x, e => by
    rw [List.getElem?_cons_succ] at e
    rw [List.set_cons_succ, setAt_self e]
/-- a pool stands at n -/
def Pl (h : MH) (n : Nat) : Prop := ∃ a b : Int, h[n]? = some (.lst [.int a, .int b])
theorem Pl.set {h : MH} {n : Nat} {a b : Int} (p : Pl h n) : Pl (h.set n (.lst [.int a, .int b])) n := by
  obtain ⟨a0, b0, e⟩ := p
  obtain ⟨hn, _⟩ := List.getElem?_eq_some_iff.mp e
  exact ⟨a, b, List.getElem?_set_self hn⟩
/-- what differs by a pool alone -/
def Onl (n : Nat) (h h' : MH) : Prop := ∃ a b : Int, h' = h.set n (.lst [.int a, .int b]) ∧ Pl h n
theorem Onl.pl {n : Nat} {h h' : MH} (o : Onl n h h') : Pl h' n := by
  obtain ⟨a, b, rfl, p⟩ := o
  exact p.set
theorem Onl.rfl' {n : Nat} {h : MH} (p : Pl h n) : Onl n h h := by
  obtain ⟨a, b, e⟩ := p
  exact ⟨a, b, by rw [setAt_self e], a, b, e⟩
theorem Onl.trans {n : Nat} {h h1 h2 : MH} (o : Onl n h h1) (q : Onl n h1 h2) : Onl n h h2 := by
  obtain ⟨a, b, rfl, p⟩ := o
  obtain ⟨a', b', rfl, p'⟩ := q
  exact ⟨a', b', by rw [List.set_set], p⟩
theorem Onl.len {n : Nat} {h h' : MH} (o : Onl n h h') : h'.length = h.length := by
  obtain ⟨a, b, rfl, p⟩ := o
  exact List.length_set
theorem draw_F {h : MH} {n : Nat} {m : Int} (p : Pl h n) (hm : 0 < m) (hm2 : m < 1073741824) : ∃ (d : Int) (h' : MH), cF 2 m_law_draw [.ref n, .int m] h = .ok (.int d) h' ∧ 0 ≤ d ∧ d < m ∧ Onl n h h' := by
  obtain ⟨a, b, e⟩ := p
  obtain ⟨d, a', b', e2, d0, d1⟩ := draw_i e hm hm2
  exact ⟨d, _, cF_keep (n := 2) rfl e2 (by simp), d0, d1, a', b', rfl, a, b, e⟩
/-- a comprehension whose tests draw -/
theorem lcGo_drw {n : Nat} {p : TP} {t : TM} {e : EM} {σ : Lo} {q : Int → MV} : ∀ {l : List Int} {h : MH}, (∀ x ∈ l, ∃ σ1, asP p (q x) σ = some σ1 ∧ ∀ h, Pl h n → ∃ (k : Bool) (h1 : MH), t σ1 h = .ok k h1 ∧ Onl n h h1 ∧ e σ1 h1 = .ok (q x) h1) → Pl h n →
    ∃ (r : List Int) (h' : MH), lcGo (fun _ => true) p t e (l.map q) σ h = .ok (r.map q) h' ∧ r.Sublist l ∧ Onl n h h'
  | [], h, _, p => ⟨[], h, by rw [List.map_nil, lcGo, if_pos rfl]; try rfl, .slnil, .rfl' p⟩
  | x :: xs, h, z, p => by
    obtain ⟨σ1, e1, z1⟩ := z x List.mem_cons_self
    obtain ⟨k, h1, e2, o1, e3⟩ := z1 h p
    obtain ⟨r, h', ih, sub, o2⟩ := lcGo_drw (l := xs) (h := h1) (fun y hy => z y (List.mem_cons_of_mem _ hy)) o1.pl
    cases k with
    | true =>
      refine ⟨x :: r, h', ?_, sub.cons₂ x, o1.trans o2⟩
      rw [List.map_cons, lcGo, if_pos rfl, e1]
      simp only [e2, if_true, e3, ih, List.map_cons]
    | false =>
      refine ⟨r, h', ?_, sub.cons x, o1.trans o2⟩
      rw [List.map_cons, lcGo, if_pos rfl, e1]
      simp only [e2, Bool.false_eq_true, if_false, ih]
end MP

namespace MP
open PySem PySem.Spec PyProof.Rows L2
theorem Pl.lt {h : MH} {n : Nat} (p : Pl h n) : n < h.length := by
  obtain ⟨a, b, e⟩ := p
  exact (List.getElem?_eq_some_iff.mp e).1
theorem Pl.app {h g : MH} {n : Nat} (p : Pl h n) : Pl (h ++ g) n := by
  have lt := p.lt
  obtain ⟨a, b, e⟩ := p
  exact ⟨a, b, by rw [List.getElem?_append_left lt]; exact e⟩
/-- a draw, while other things stand behind -/
theorem draw_A {h g : MH} {n : Nat} {m : Int} (p : Pl h n) (hm : 0 < m) (hm2 : m < 1073741824) : ∃ (d : Int) (h' : MH), cF 2 m_law_draw [.ref n, .int m] (h ++ g) = .ok (.int d) (h' ++ g) ∧ 0 ≤ d ∧ d < m ∧ Onl n h h' := by
  obtain ⟨d, h', e, d0, d1, o⟩ := draw_F (p.app (g := g)) hm hm2
  obtain ⟨a, b, rfl, _⟩ := o
  refine ⟨d, h.set n (.lst [.int a, .int b]), ?_, d0, d1, a, b, rfl, p⟩
  rw [e, List.set_append_left _ _ p.lt]
theorem wS_ix {d : Int} (h0 : 0 ≤ d) (h2 : d < 2) : ∃ w : Bool, ∀ G, mIxA (.lv [.str (Str.ofString "read"), .str (Str.ofString "write")]) (.int d) G = .ok (.str (wS w)) G := by
  have : d = 0 ∨ d = 1 := by omega
  rcases this with rfl | rfl
  · exact ⟨false, fun _ => rfl⟩
  · exact ⟨true, fun _ => rfl⟩
/-- d[k] = v, the heap growing on the way only by what the pool does -/
theorem setA_go {rv ro ri : EM} {σ : Lo} {h0 h1 h2 : MH} {l : List (MV × MV)} {k v : MV} {kk : Key} {N : Nat} (ev : rv σ h0 = .ok v h1) (eo : ro σ h1 = .ok (.ref N) h1) (ei : ri σ h1 = .ok k (h2 ++ [MO.dct l])) (eN : N = h2.length) (ek : mkey k = some kk) (z : l.length < SZ) (nd : nodK l = true) :
    sSetA rv ro ri σ h0 = .nx σ (h2 ++ [MO.dct (putKV l k v)]) := by
  subst eN
  have e0 : isDct (.ref h2.length) (h2 ++ [MO.dct l]) = true := by unfold isDct; simp only [get_new]
  unfold sSetA
  rw [ev, bindS_ok, eo, bindS_ok, ei, bindS_ok, e0]
  simp only [if_true, sSetDx, bindS_ok, get_new, ek, decide_eq_true z, nd, Bool.and_self, setH, set_new]
theorem asL_lv (l : List MV) (h : MH) : asL (.lv l) h = some l := rfl
/-- d.update(pairs) -/
theorem upd_go {ro : EM} {rs : AM} {σ : Lo} {h : MH} {t u : As En} {N : Nat} (eo : ro σ (h ++ [MO.dct (tabG enM t)]) = .ok (.ref N) (h ++ [MO.dct (tabG enM t)])) (er : rs σ (h ++ [MO.dct (tabG enM t)]) = .ok [.lv ((tabG enM u).map fun p => .tup [p.1, p.2])] (h ++ [MO.dct (tabG enM t)])) (eN : N = h.length) (nd : ndk t) (z : t.length + u.length ≤ SZ) :
    mMethD mDUpd ro rs σ (h ++ [MO.dct (tabG enM t)]) = .ok .non (h ++ [MO.dct (tabG enM (pta t u))]) := by
  subst eN
  have e0 : isDct (.ref h.length) (h ++ [MO.dct (tabG enM t)]) = true := by unfold isDct; simp only [get_new]
  have ok : (nodK (tabG enM t) && decide ((tabG enM t).length + (tabG enM u).length ≤ SZ)) = true := by
    rw [nod_tabG enM nd, len_tabG, len_tabG, decide_eq_true z]; rfl
  unfold mMethD
  rw [eo, bindR_ok, e0, if_pos rfl, er, bindR_ok]
  unfold mDUpd
  simp only [get_new, asL_lv, kvs?_map _ (keysOk_tabG enM u), ok, if_true, setH, set_new, putAll_tabG]
/-- a table while a stretch is laid -/
structure Lay (s p : Int) (t : As En) : Prop where
  tab : Tab s t
  hi : ∀ x, p + 4 ≤ x → lk t x = none
  ng : ∀ e, lk t p = some e → e.g = false
theorem Lay.put {s p : Int} {t : As En} (L : Lay s p t) {k : Int} {e : En} (p0 : 0 ≤ p) (p1 : p ≤ 28) (p4 : p % 4 = 0) (k0 : 0 ≤ k) (k4 : k < 4) (ok : enOk s e) (hg : e.g = false) : Lay s p (pt t (p + k) e) := by
  refine ⟨tab_small L.tab (by omega) (by omega) ok hg fun e' h g => ?_, fun x hx => ?_, fun e' h => ?_⟩
  · rw [show p + k - (p + k) % 4 = p by omega] at h
    rw [L.ng e' h] at g; cases g
  · rw [lk_pt, if_neg (by omega)]; exact L.hi x hx
  · rw [lk_pt] at h
    split at h
    · cases h; exact hg
    · exact L.ng e' h
def sm4 (p B : Int) (w : Bool) : As En := [(p + 0, ⟨false, B + 0, w⟩), (p + 1, ⟨false, B + 1, w⟩), (p + 2, ⟨false, B + 2, w⟩), (p + 3, ⟨false, B + 3, w⟩)]
def rs4 (p B : Int) (w : Bool) : As En := [(p + 0, ⟨false, B + 3 - 0, w⟩), (p + 1, ⟨false, B + 3 - 1, w⟩), (p + 2, ⟨false, B + 3 - 2, w⟩), (p + 3, ⟨false, B + 3 - 3, w⟩)]
theorem Lay.sm {s p B : Int} {w : Bool} {t : As En} (L : Lay s p t) (p0 : 0 ≤ p) (p1 : p ≤ 28) (p4 : p % 4 = 0) (b0 : 0 ≤ B) (b1 : B ≤ s - 4) : Lay s p (pta t (sm4 p B w)) := by
  have ok : ∀ k : Int, 0 ≤ k → k < 4 → enOk s ⟨false, B + k, w⟩ := fun k k0 k4 => ⟨by show 0 ≤ B + k; omega, by show B + k ≤ s - 1; omega, fun z => by cases z⟩
  exact (((L.put p0 p1 p4 (by omega) (by omega) (ok 0 (by omega) (by omega)) rfl).put p0 p1 p4 (by omega) (by omega) (ok 1 (by omega) (by omega)) rfl).put p0 p1 p4 (by omega) (by omega) (ok 2 (by omega) (by omega)) rfl).put p0 p1 p4 (by omega) (by omega) (ok 3 (by omega) (by omega)) rfl
theorem Lay.rs {s p B : Int} {w : Bool} {t : As En} (L : Lay s p t) (p0 : 0 ≤ p) (p1 : p ≤ 28) (p4 : p % 4 = 0) (b0 : 0 ≤ B) (b1 : B ≤ s - 4) : Lay s p (pta t (rs4 p B w)) := by
  have ok : ∀ k : Int, 0 ≤ k → k < 4 → enOk s ⟨false, B + 3 - k, w⟩ := fun k k0 k4 => ⟨by show 0 ≤ B + 3 - k; omega, by show B + 3 - k ≤ s - 1; omega, fun z => by cases z⟩
  exact (((L.put p0 p1 p4 (by omega) (by omega) (ok 0 (by omega) (by omega)) rfl).put p0 p1 p4 (by omega) (by omega) (ok 1 (by omega) (by omega)) rfl).put p0 p1 p4 (by omega) (by omega) (ok 2 (by omega) (by omega)) rfl).put p0 p1 p4 (by omega) (by omega) (ok 3 (by omega) (by omega)) rfl
section
variable {s : Int}
/-- an entry, drawn -/
theorem entry_A {h g : MH} {n : Nat} (hs : isz s = true) (p : Pl h n) : ∃ (e : En) (h' : MH), cF 2 m_law_entry [.ref n, .int s] (h ++ g) = .ok (enM e) (h' ++ g) ∧ enOk s e ∧ e.g = false ∧ Onl n h h' := by
  have hz := isz_le hs
  obtain ⟨f, h1, e1, f0, f1, o1⟩ := draw_A (g := g) p (m := s) (by omega) (by omega)
  obtain ⟨d, h2, e2, d0, d1, o2⟩ := draw_A (g := g) o1.pl (m := 2) (by decide) (by decide)
  obtain ⟨w, ew⟩ := wS_ix d0 d1
  have z2 : 2 ≤ SZ := by decide
  have z3 : 3 ≤ SZ := by decide
  refine ⟨⟨false, f, w⟩, h2, cF_keep rfl (fnM_rt ?_) (by rw [List.length_append, List.length_append, o2.len, o1.len]; exact Nat.le_refl _), ⟨f0, by show f ≤ s - 1; omega, fun z => by cases z⟩, rfl, o1.trans o2⟩
  show mb_law_entry [some (.ref n), some (.int s), none, none] (h ++ g) = _
  unfold mb_law_entry
  refine (seq_nx (σ1 := [some (.ref n), some (.int s), some (.int f), none]) (h1 := h1 ++ g) (by simp [e1])).trans ?_
  refine (seq_nx (σ1 := [some (.ref n), some (.int s), some (.int f), some (.str (wS w))]) (h1 := h2 ++ g) (by simp [mkLv, z2, e2, ew])).trans ?_
  simp [z3, enM, gS]
end
end MP

namespace MP
open PySem PySem.Spec PyProof.Rows L2
section
variable {s : Int} {n N : Nat}
abbrev TL (n : Nat) (s : Int) (N : Nat) (x3 x4 x5 x6 x7 x8 : Option MV) : Lo := [some (.ref n), some (.int s), some (.ref N), x3, x4, x5, x6, x7, x8]
abbrev HD (h : MH) (t : As En) : MH := h ++ [.dct (tabG enM t)]
theorem lt_SZ {t : As En} (T : Tab s t) : (tabG enM t).length < SZ := by
  rw [len_tabG]
  exact Nat.lt_of_le_of_lt T.len (by decide)
/-- one small entry drawn, put at the stretch's first + an offset that is there -/
theorem put_i {h : MH} {t : As En} {p k : Int} {x4 x5 x6 x7 : Option MV} (hs : isz s = true) (pl : Pl h n) (hN : N = h.length) (L : Lay s p t) (p0 : 0 ≤ p) (p1 : p ≤ 28) (p4 : p % 4 = 0) (k0 : 0 ≤ k) (k4 : k < 4) :
    ∃ h' t', sSetA (mN (cF 2 m_law_entry) (mCons (mVar 0) (mCons (mVar 1) mNil))) (mVar 2) (m2 (mAdd finV) (mVar 3) (mVar 8)) (TL n s N (some (.int p)) x4 x5 x6 x7 (some (.int k))) (HD h t) = .nx (TL n s N (some (.int p)) x4 x5 x6 x7 (some (.int k))) (HD h' t') ∧ Onl n h h' ∧ Lay s p t' := by
  obtain ⟨e, h1, e1, ok, hg, o1⟩ := entry_A (g := [.dct (tabG enM t)]) hs pl
  refine ⟨h1, pt t (p + k) e, ?_, o1, L.put p0 p1 p4 k0 k4 ok hg⟩
  rw [setA_go (h1 := HD h1 t) (h2 := h1) (l := tabG enM t) (k := .int (p + k)) (v := enM e) (kk := .inl (p + k)) (N := N) (by simp [e1]) rfl (by simp) (by rw [o1.len]; exact hN) rfl (lt_SZ L.tab) (nod_tabG enM L.tab.nd), put_tabG]
theorem inner_i {h : MH} {t : As En} {p : Int} {x4 x5 x6 x7 x8 : Option MV} (hs : isz s = true) (pl : Pl h n) (hN : N = h.length) (L : Lay s p t) (p0 : 0 ≤ p) (p1 : p ≤ 28) (p4 : p % 4 = 0) :
    ∃ h' t' x8', forGo (fun _ => true) (gmName 8) (sGc [8] lb_law_table_0) (rgM 0 1 4) (TL n s N (some (.int p)) x4 x5 x6 x7 x8) (HD h t) = .nx (TL n s N (some (.int p)) x4 x5 x6 x7 x8') (HD h' t') ∧ Onl n h h' ∧ Lay s p t' := by
  obtain ⟨σ', G, e, h', t', y, rfl, rfl, o, L', _⟩ := forGo_list (chk := fun _ => true) (g := gmName 8) (body := sGc [8] lb_law_table_0) (q := fun i : Nat => MV.int (0 + (i : Int) * 1))
    (fun xs σ G => ∃ h' t' y, σ = TL n s N (some (.int p)) x4 x5 x6 x7 y ∧ G = HD h' t' ∧ Onl n h h' ∧ Lay s p t' ∧ ∀ i ∈ xs, i < 4)
    (fun i xs σ G ⟨h', t', y, hσ, hG, o, L', lt⟩ => by
      subst hσ hG
      have hi := lt i List.mem_cons_self
      have k0 : 0 ≤ (0 + (i : Int) * 1) := by omega
      have k4 : (0 + (i : Int) * 1) < 4 := by omega
      generalize (0 + (i : Int) * 1) = k at *
      obtain ⟨d, h1, e1, d0, d1, o1⟩ := draw_A (g := [.dct (tabG enM t')]) o.pl (m := 2) (by decide) (by decide)
      have lt' : ∀ j ∈ xs, j < 4 := fun j hj => lt j (List.mem_cons_of_mem _ hj)
      by_cases hd : d = 0
      · obtain ⟨h2, t2, e2, o2, L2⟩ := put_i (N := N) (x4 := x4) (x5 := x5) (x6 := x6) (x7 := x7) hs o1.pl (by rw [o1.len, o.len]; exact hN) L' p0 p1 p4 k0 k4
        have B : lb_law_table_0 (TL n s N (some (.int p)) x4 x5 x6 x7 (some (.int k))) (HD h' t') = .nx (TL n s N (some (.int p)) x4 x5 x6 x7 (some (.int k))) (HD h2 t2) := by
          rw [← e2]
          unfold lb_law_table_0
          simp only [sIf, mB, m2, mN, mCons, mVar, mC, mNil, List.getElem?_cons_zero, bindR_ok, e1, eqA_int, hd, decide_true, isB, bindS_ok, if_true]
        exact ⟨rfl, _, _, rfl, _, _, sGc_le B (by rw [List.length_append, List.length_append, o2.len, o1.len]; exact Nat.le_refl _), h2, t2, none, rfl, rfl, o.trans (o1.trans o2), L2, lt'⟩
      · have B : lb_law_table_0 (TL n s N (some (.int p)) x4 x5 x6 x7 (some (.int k))) (HD h' t') = .nx (TL n s N (some (.int p)) x4 x5 x6 x7 (some (.int k))) (HD h1 t') := by
          have hd' : decide (d = 0) = false := decide_eq_false hd
          unfold lb_law_table_0
          simp only [sIf, mB, m2, mN, mCons, mVar, mC, mNil, List.getElem?_cons_zero, bindR_ok, e1, eqA_int, hd', isB, bindS_ok, Bool.false_eq_true, if_false, sNil]
        exact ⟨rfl, _, _, rfl, _, _, sGc_le B (by rw [List.length_append, List.length_append, o1.len]; exact Nat.le_refl _), h1, t', none, rfl, rfl, o.trans o1, L', lt'⟩)
    (fun _ _ _ => rfl) (List.range 4) (TL n s N (some (.int p)) x4 x5 x6 x7 x8) (HD h t) ⟨h, t, x8, rfl, rfl, .rfl' pl, L, fun i hi => List.mem_range.mp hi⟩
  exact ⟨h', t', y, e, o, L'⟩
theorem upd1_i {h : MH} {t : As En} {p B : Int} {w : Bool} {x4 x6 x8 : Option MV} (hN : N = h.length) (T : Tab s t) :
    sExpr (mMethD mDUpd (mVar 2) (mCons (mLc (fun σ h => bindR ((mCons (mC (.int 4)) mNil) σ h) itR1) (.nm 8) mYes le_law_table_1 [8] finV) mNil)) (TL n s N (some (.int p)) x4 (some (.str (wS w))) x6 (some (.int B)) x8) (HD h t) = .nx (TL n s N (some (.int p)) x4 (some (.str (wS w))) x6 (some (.int B)) x8) (HD h (pta t (sm4 p B w))) := by
  have in4 : inB 4 = true := rfl
  have len4 : (rgM 0 1 4).length ≤ SZ := by decide
  have z2 : 2 ≤ SZ := by decide
  have z3 : 3 ≤ SZ := by decide
  have lc : lcGo (fun _ => true) (.nm 8) mYes le_law_table_1 (rgM 0 1 4) (clrL [8] (TL n s N (some (.int p)) x4 (some (.str (wS w))) x6 (some (.int B)) x8)) (HD h t) = .ok ((tabG enM (sm4 p B w)).map fun p => .tup [p.1, p.2]) (HD h t) := by
    have r : rgM 0 1 4 = [.int 0, .int 1, .int 2, .int 3] := rfl
    rw [r]
    simp [lcGo, asP, clrL, le_law_table_1, z2, z3, tabG, sm4, enM, gS]
  have u := upd_go (ro := mVar 2) (rs := mCons (mLc (fun σ h => bindR ((mCons (mC (.int 4)) mNil) σ h) itR1) (.nm 8) mYes le_law_table_1 [8] finV) mNil) (σ := TL n s N (some (.int p)) x4 (some (.str (wS w))) x6 (some (.int B)) x8) (h := h) (t := t) (u := sm4 p B w) (N := N) rfl (by simp only [mCons, mLc, mC, mNil, bindR_ok, itR1_int in4, Int.reduceToNat, if_pos len4, lc, finV]) hN T.nd (Nat.le_trans (Nat.add_le_add_right T.len 4) (by decide))
  rw [sExpr, u, bindS_ok]
theorem upd2_i {h : MH} {t : As En} {p B : Int} {w : Bool} {x4 x6 x8 : Option MV} (hN : N = h.length) (T : Tab s t) :
    sExpr (mMethD mDUpd (mVar 2) (mCons (mLc (fun σ h => bindR ((mCons (mC (.int 4)) mNil) σ h) itR1) (.nm 8) mYes le_law_table_0 [8] finV) mNil)) (TL n s N (some (.int p)) x4 (some (.str (wS w))) x6 (some (.int B)) x8) (HD h t) = .nx (TL n s N (some (.int p)) x4 (some (.str (wS w))) x6 (some (.int B)) x8) (HD h (pta t (rs4 p B w))) := by
  have in4 : inB 4 = true := rfl
  have len4 : (rgM 0 1 4).length ≤ SZ := by decide
  have z2 : 2 ≤ SZ := by decide
  have z3 : 3 ≤ SZ := by decide
  have lc : lcGo (fun _ => true) (.nm 8) mYes le_law_table_0 (rgM 0 1 4) (clrL [8] (TL n s N (some (.int p)) x4 (some (.str (wS w))) x6 (some (.int B)) x8)) (HD h t) = .ok ((tabG enM (rs4 p B w)).map fun p => .tup [p.1, p.2]) (HD h t) := by
    have r : rgM 0 1 4 = [.int 0, .int 1, .int 2, .int 3] := rfl
    rw [r]
    simp [lcGo, asP, clrL, le_law_table_0, z2, z3, tabG, rs4, enM, gS]
  have u := upd_go (ro := mVar 2) (rs := mCons (mLc (fun σ h => bindR ((mCons (mC (.int 4)) mNil) σ h) itR1) (.nm 8) mYes le_law_table_0 [8] finV) mNil) (σ := TL n s N (some (.int p)) x4 (some (.str (wS w))) x6 (some (.int B)) x8) (h := h) (t := t) (u := rs4 p B w) (N := N) rfl (by simp only [mCons, mLc, mC, mNil, bindR_ok, itR1_int in4, Int.reduceToNat, if_pos len4, lc, finV]) hN T.nd (Nat.le_trans (Nat.add_le_add_right T.len 4) (by decide))
  rw [sExpr, u, bindS_ok]
end
end MP

namespace MP
open PySem PySem.Spec PyProof.Rows L2
section
variable {s : Int} {n N : Nat}
/-- the way's own part -/
def wayS : SM :=
  (sIf (mB (m2 mEqA (mVar 4) (mC (.int 0))))
  (sSetA (mN mkTup (mCons (mC (.str (Str.ofString "great"))) (mCons (mVar 6) (mCons (mVar 5) mNil)))) (mVar 2) (mVar 3))
  (sIf (mB (m2 mLt (mVar 4) (mC (.int 3))))
  (sSeq (sSet 7 (m2 mIxA (mN mkLv (mCons (mVar 6) (mCons (mVar 6) (mCons (mN (cF 2 m_law_draw) (mCons (mVar 0) (mCons (m2 mSubI (mVar 1) (mC (.int 3))) mNil))) mNil)))) (mN (cF 2 m_law_draw) (mCons (mVar 0) (mCons (mC (.int 3)) mNil)))))
  (sSeq (sExpr (mMethD mDUpd (mVar 2) (mCons (mLc (fun σ h => bindR ((mCons (mC (.int 4)) mNil) σ h) itR1) (.nm 8) mYes le_law_table_1 [8] finV) mNil)))
  (sSeq (sIf (mB (m2 mEqA (mN (cF 2 m_law_draw) (mCons (mVar 0) (mCons (mC (.int 6)) mNil))) (mC (.int 0))))
  (sExpr (mMethD mDUpd (mVar 2) (mCons (mLc (fun σ h => bindR ((mCons (mC (.int 4)) mNil) σ h) itR1) (.nm 8) mYes le_law_table_0 [8] finV) mNil)))
  sNil)
  (sIf (mB (m2 mEqA (mVar 4) (mC (.int 2))))
  (sSetA (mN (cF 2 m_law_entry) (mCons (mVar 0) (mCons (mVar 1) mNil))) (mVar 2) (m2 (mAdd finV) (mVar 3) (mN (cF 2 m_law_draw) (mCons (mVar 0) (mCons (mC (.int 4)) mNil)))))
  sNil))))
  (sIf (mB (m2 mLt (mVar 4) (mC (.int 6))))
  (sFor (fun σ h => bindR ((mCons (mC (.int 4)) mNil) σ h) itR1) (gmName 8) (sGc [8]
  lb_law_table_0))
  sNil)))
structure Bef (s p : Int) (t : As En) : Prop where
  tab : Tab s t
  hi : ∀ x, p ≤ x → lk t x = none
theorem Bef.lay {p : Int} {t : As En} (b : Bef s p t) : Lay s p t := ⟨b.tab, fun x hx => b.hi x (by omega), fun e h => by rw [b.hi p (Int.le_refl _)] at h; cases h⟩
theorem Lay.bef {p : Int} {t : As En} (L : Lay s p t) : Bef s (p + 4) t := ⟨L.tab, L.hi⟩
theorem way_i {h : MH} {t : As En} {p v f : Int} {w : Bool} {x7 x8 : Option MV} (hs : isz s = true) (pl : Pl h n) (hN : N = h.length) (b : Bef s p t) (p0 : 0 ≤ p) (p1 : p ≤ 28) (p4 : p % 4 = 0) (f0 : 0 ≤ f) (f1 : f ≤ s - 4) (f4 : f % 4 = 0) :
    ∃ h' t' x7' x8', wayS (TL n s N (some (.int p)) (some (.int v)) (some (.str (wS w))) (some (.int f)) x7 x8) (HD h t) = .nx (TL n s N (some (.int p)) (some (.int v)) (some (.str (wS w))) (some (.int f)) x7' x8') (HD h' t') ∧ Onl n h h' ∧ Bef s (p + 4) t' := by
  have hz := isz_le hs
  have z3 : 3 ≤ SZ := by decide
  by_cases v0 : v = 0
  · -- a great one
    refine ⟨h, pt t p ⟨true, f, w⟩, x7, x8, ?_, .rfl' pl, ⟨tab_great b.tab p0 (by omega) ⟨f0, by show f ≤ s - 1; omega, fun _ => f4⟩ p4 (b.hi _ (by omega)) (b.hi _ (by omega)) (b.hi _ (by omega)), fun x hx => by rw [lk_pt, if_neg (by omega)]; exact b.hi x (by omega)⟩⟩
    have st := setA_go (rv := mN mkTup (mCons (mC (.str (Str.ofString "great"))) (mCons (mVar 6) (mCons (mVar 5) mNil)))) (ro := mVar 2) (ri := mVar 3) (σ := TL n s N (some (.int p)) (some (.int v)) (some (.str (wS w))) (some (.int f)) x7 x8) (h0 := HD h t) (h1 := HD h t) (h2 := h) (l := tabG enM t) (k := .int p) (v := enM ⟨true, f, w⟩) (kk := .inl p) (N := N) (by simp [z3, enM, gS]) rfl rfl hN rfl (lt_SZ b.tab) (nod_tabG enM b.tab.nd)
    rw [put_tabG] at st
    rw [← st]
    unfold wayS
    simp only [sIf, mB, m2, mVar, mC, List.getElem?_cons_succ, List.getElem?_cons_zero, bindR_ok, eqA_int, v0, decide_true, isB, bindS_ok, if_true]
  · have d0 : decide (v = 0) = false := decide_eq_false v0
    by_cases v3 : v < 3
    · have d3 : decide (v < 3) = true := decide_eq_true v3
      obtain ⟨r, h1, e1, r0, r1, o1⟩ := draw_A (g := [.dct (tabG enM t)]) pl (m := s - 3) (by omega) (by omega)
      obtain ⟨q, h2, e2, q0, q1, o2⟩ := draw_A (g := [.dct (tabG enM t)]) o1.pl (m := 3) (by decide) (by decide)
      obtain ⟨B, B0, B1, eB⟩ : ∃ B : Int, 0 ≤ B ∧ B ≤ s - 4 ∧ ∀ G, mIxA (.lv [.int f, .int f, .int r]) (.int q) G = .ok (.int B) G := by
        have : q = 0 ∨ q = 1 ∨ q = 2 := by omega
        rcases this with rfl | rfl | rfl
        · exact ⟨f, f0, f1, fun _ => rfl⟩
        · exact ⟨f, f0, f1, fun _ => rfl⟩
        · exact ⟨r, r0, by omega, fun _ => rfl⟩
      have L1 := b.lay.sm (B := B) (w := w) p0 p1 p4 B0 B1
      have N1 : N = h2.length := by rw [o2.len, o1.len]; exact hN
      obtain ⟨c, h3, e3, c0, c1, o3⟩ := draw_A (g := [.dct (tabG enM (pta t (sm4 p B w)))]) o2.pl (m := 6) (by decide) (by decide)
      have N3 : N = h3.length := by rw [o3.len]; exact N1
      -- turned about, or not
      obtain ⟨t4, L4, e4⟩ : ∃ t4, Lay s p t4 ∧ sIf (mB (m2 mEqA (mN (cF 2 m_law_draw) (mCons (mVar 0) (mCons (mC (.int 6)) mNil))) (mC (.int 0)))) (sExpr (mMethD mDUpd (mVar 2) (mCons (mLc (fun σ h => bindR ((mCons (mC (.int 4)) mNil) σ h) itR1) (.nm 8) mYes le_law_table_0 [8] finV) mNil))) sNil (TL n s N (some (.int p)) (some (.int v)) (some (.str (wS w))) (some (.int f)) (some (.int B)) x8) (HD h2 (pta t (sm4 p B w))) = .nx (TL n s N (some (.int p)) (some (.int v)) (some (.str (wS w))) (some (.int f)) (some (.int B)) x8) (HD h3 t4) := by
        by_cases hc : c = 0
        · have dc : decide (c = 0) = true := decide_eq_true hc
          refine ⟨pta (pta t (sm4 p B w)) (rs4 p B w), L1.rs p0 p1 p4 B0 B1, ?_⟩
          rw [← upd2_i N3 L1.tab]
          simp only [sIf, mB, m2, mN, mCons, mVar, mC, mNil, List.getElem?_cons_zero, bindR_ok, e3, eqA_int, dc, isB, bindS_ok, if_true]
        · have dc : decide (c = 0) = false := decide_eq_false hc
          refine ⟨pta t (sm4 p B w), L1, ?_⟩
          simp only [sIf, mB, m2, mN, mCons, mVar, mC, mNil, List.getElem?_cons_zero, bindR_ok, e3, eqA_int, dc, isB, bindS_ok, Bool.false_eq_true, if_false, sNil]
      have z2 : ([MV.int f, MV.int f, MV.int r]).length ≤ SZ := z3
      have s7 : sSet 7 (m2 mIxA (mN mkLv (mCons (mVar 6) (mCons (mVar 6) (mCons (mN (cF 2 m_law_draw) (mCons (mVar 0) (mCons (m2 mSubI (mVar 1) (mC (.int 3))) mNil))) mNil)))) (mN (cF 2 m_law_draw) (mCons (mVar 0) (mCons (mC (.int 3)) mNil)))) (TL n s N (some (.int p)) (some (.int v)) (some (.str (wS w))) (some (.int f)) x7 x8) (HD h t) = .nx (TL n s N (some (.int p)) (some (.int v)) (some (.str (wS w))) (some (.int f)) (some (.int B)) x8) (HD h2 t) := by
        simp only [sSet, m2, mN, mCons, mVar, mC, mNil, List.getElem?_cons_succ, List.getElem?_cons_zero, bindR_ok, sub_int, e1, mkLv, if_pos z2, e2, eB, bindS_ok, List.set_cons_succ, List.set_cons_zero]
      by_cases v2 : v = 2
      · have dv : decide (v = 2) = true := decide_eq_true v2
        obtain ⟨e, h5, e5, ok, hg, o5⟩ := entry_A (g := [.dct (tabG enM t4)]) hs o3.pl
        obtain ⟨k, h6, e6, k0, k4, o6⟩ := draw_A (g := [.dct (tabG enM t4)]) o5.pl (m := 4) (by decide) (by decide)
        refine ⟨h6, pt t4 (p + k) e, some (.int B), x8, ?_, o1.trans (o2.trans (o3.trans (o5.trans o6))), (L4.put p0 p1 p4 k0 k4 ok hg).bef⟩
        have st := setA_go (rv := mN (cF 2 m_law_entry) (mCons (mVar 0) (mCons (mVar 1) mNil))) (ro := mVar 2) (ri := m2 (mAdd finV) (mVar 3) (mN (cF 2 m_law_draw) (mCons (mVar 0) (mCons (mC (.int 4)) mNil)))) (σ := TL n s N (some (.int p)) (some (.int v)) (some (.str (wS w))) (some (.int f)) (some (.int B)) x8) (h0 := HD h3 t4) (h1 := HD h5 t4) (h2 := h6) (l := tabG enM t4) (k := .int (p + k)) (v := enM e) (kk := .inl (p + k)) (N := N) (by simp [e5]) rfl (by simp [e6]) (by rw [o6.len, o5.len]; exact N3) rfl (lt_SZ L4.tab) (nod_tabG enM L4.tab.nd)
        rw [put_tabG] at st
        rw [← st]
        unfold wayS
        simp only [sIf, mB, m2, mVar, mC, List.getElem?_cons_succ, List.getElem?_cons_zero, bindR_ok, eqA_int, d0, lt_int, d3, isB, bindS_ok, Bool.false_eq_true, if_false, if_true]
        refine (seq_nx s7).trans ((seq_nx (upd1_i N1 b.tab)).trans ((seq_nx e4).trans ?_))
        simp only [sIf, mB, m2, mVar, mC, List.getElem?_cons_succ, List.getElem?_cons_zero, bindR_ok, eqA_int, dv, isB, bindS_ok, if_true]
      · have dv : decide (v = 2) = false := decide_eq_false v2
        refine ⟨h3, t4, some (.int B), x8, ?_, o1.trans (o2.trans o3), L4.bef⟩
        unfold wayS
        simp only [sIf, mB, m2, mVar, mC, List.getElem?_cons_succ, List.getElem?_cons_zero, bindR_ok, eqA_int, d0, lt_int, d3, isB, bindS_ok, Bool.false_eq_true, if_false, if_true]
        refine (seq_nx s7).trans ((seq_nx (upd1_i N1 b.tab)).trans ((seq_nx e4).trans ?_))
        simp only [sIf, mB, m2, mVar, mC, List.getElem?_cons_succ, List.getElem?_cons_zero, bindR_ok, eqA_int, dv, isB, bindS_ok, Bool.false_eq_true, if_false, sNil]
    · have d3 : decide (v < 3) = false := decide_eq_false v3
      by_cases v6 : v < 6
      · have d6 : decide (v < 6) = true := decide_eq_true v6
        obtain ⟨h', t', x8', e, o, L'⟩ := inner_i (N := N) (x4 := some (.int v)) (x5 := some (.str (wS w))) (x6 := some (.int f)) (x7 := x7) (x8 := x8) hs pl hN b.lay p0 p1 p4
        refine ⟨h', t', x7, x8', ?_, o, L'.bef⟩
        rw [← e]
        unfold wayS
        simp only [sIf, mB, m2, mVar, mC, List.getElem?_cons_succ, List.getElem?_cons_zero, bindR_ok, eqA_int, d0, lt_int, d3, d6, isB, bindS_ok, Bool.false_eq_true, if_false, if_true]
        exact sFor_rg1 (j := 4) (h1 := HD h t) rfl rfl
      · have d6 : decide (v < 6) = false := decide_eq_false v6
        refine ⟨h, t, x7, x8, ?_, .rfl' pl, b.lay.bef⟩
        unfold wayS
        simp only [sIf, mB, m2, mVar, mC, List.getElem?_cons_succ, List.getElem?_cons_zero, bindR_ok, eqA_int, d0, lt_int, d3, d6, isB, bindS_ok, Bool.false_eq_true, if_false, sNil]
theorem turn_i {h : MH} {t : As En} {p : Int} {x4 x5 x6 x7 x8 : Option MV} (hs : isz s = true) (pl : Pl h n) (hN : N = h.length) (b : Bef s p t) (p0 : 0 ≤ p) (p1 : p ≤ 28) (p4 : p % 4 = 0) :
    ∃ h' t' x7' x8', sGc [3, 4, 5, 6] lb_law_table_1 (TL n s N (some (.int p)) x4 x5 x6 x7 x8) (HD h t) = .nx (TL n s N none none none none x7' x8') (HD h' t') ∧ Onl n h h' ∧ Bef s (p + 4) t' := by
  have hz := isz_le hs
  obtain ⟨v, h1, e1, _, _, o1⟩ := draw_A (g := [.dct (tabG enM t)]) pl (m := 8) (by decide) (by decide)
  obtain ⟨d, h2, e2, d0, d1, o2⟩ := draw_A (g := [.dct (tabG enM t)]) o1.pl (m := 2) (by decide) (by decide)
  obtain ⟨w, ew⟩ := wS_ix d0 d1
  obtain ⟨q, h3, e3, q0, q1, o3⟩ := draw_A (g := [.dct (tabG enM t)]) o2.pl (m := s / 4) (by omega) (by omega)
  have o := o1.trans (o2.trans o3)
  obtain ⟨h', t', x7', x8', e, o', b'⟩ := way_i (N := N) (v := v) (f := 4 * q) (w := w) (x7 := x7) (x8 := x8) hs o.pl (by rw [o.len]; exact hN) b p0 p1 p4 (by omega) (by omega) (by omega)
  refine ⟨h', t', x7', x8', ?_, o.trans o', b'⟩
  have dv := div_int s 4 (HD h2 t) (by decide) (by decide)
  have mm : mMul finV (.int 4) (.int q) (HD h3 t) = .ok (.int (4 * q)) (HD h3 t) := mul_int _ _ _ _ (.inl ⟨by decide, by decide⟩)
  have z2 : 2 ≤ SZ := by decide
  have T : lb_law_table_1 (TL n s N (some (.int p)) x4 x5 x6 x7 x8) (HD h t) = .nx (TL n s N (some (.int p)) (some (.int v)) (some (.str (wS w))) (some (.int (4 * q))) x7' x8') (HD h' t') := by
    unfold lb_law_table_1
    refine (seq_nx (σ1 := TL n s N (some (.int p)) (some (.int v)) x5 x6 x7 x8) (h1 := HD h1 t) (by simp [e1])).trans ?_
    refine (seq_nx (σ1 := TL n s N (some (.int p)) (some (.int v)) (some (.str (wS w))) x6 x7 x8) (h1 := HD h2 t) (by simp [mkLv, z2, e2, ew])).trans ?_
    refine (seq_nx (σ1 := TL n s N (some (.int p)) (some (.int v)) (some (.str (wS w))) (some (.int (4 * q))) x7 x8) (h1 := HD h3 t) (by simp [dv, e3, mm])).trans ?_
    exact e
  exact sGc_le T (by rw [List.length_append, List.length_append, o'.len, o.len]; exact Nat.le_refl _)
theorem bef_nil : Bef s 0 [] := ⟨⟨by simp [ndk], fun a e z => by simp [lk] at z, fun a e z => by simp [lk] at z, fun a e z => by simp [lk] at z⟩, fun x _ => rfl⟩
theorem table_i {h : MH} (hs : isz s = true) (pl : Pl h n) : ∃ h' t, m_law_table [.ref n, .int s] h = .ok (.ref h.length) (h' ++ [.dct (tabG enM t)]) ∧ Onl n h h' ∧ Tab s t := by
  obtain ⟨σ', G, e, h', t', x7, x8, rfl, rfl, o, ⟨k, b⟩, _⟩ := forGo_list (chk := fun _ => true) (g := gmName 3) (body := sGc [3, 4, 5, 6] lb_law_table_1) (q := MV.int)
    (fun xs σ G => ∃ h' t' x7 x8, σ = TL n s h.length none none none none x7 x8 ∧ G = HD h' t' ∧ Onl n h h' ∧ (∃ k : Int, Bef s k t') ∧ ∃ k : Int, 0 ≤ k ∧ Bef s k t' ∧ k % 4 = 0 ∧ k ≤ 32 ∧ xs = FI.filter fun x => decide (k ≤ x))
    (fun x xs σ G ⟨h', t', x7, x8, hσ, hG, o, _, k, k0, b, k4, k32, hx⟩ => by
      subst hσ hG
      have hk : k = 0 ∨ k = 4 ∨ k = 8 ∨ k = 12 ∨ k = 16 ∨ k = 20 ∨ k = 24 ∨ k = 28 ∨ k = 32 := by omega
      have : x = k ∧ k ≤ 28 ∧ xs = FI.filter fun x => decide (k + 4 ≤ x) := by
        rcases hk with rfl | rfl | rfl | rfl | rfl | rfl | rfl | rfl | rfl <;> simp [FI] at hx ⊢ <;> exact hx
      obtain ⟨rfl, k28, hxs⟩ := this
      obtain ⟨h2, t2, y7, y8, e, o2, b2⟩ := turn_i (N := h.length) (x4 := none) (x5 := none) (x6 := none) (x7 := x7) (x8 := x8) hs o.pl o.len.symm b k0 k28 k4
      exact ⟨rfl, _, _, rfl, _, _, e, h2, t2, y7, y8, rfl, rfl, o.trans o2, ⟨_, b2⟩, x + 4, by omega, b2, by omega, by omega, hxs⟩)
    (fun _ _ _ => rfl) FI (TL n s h.length none none none none none none) (HD h []) ⟨h, [], none, none, rfl, rfl, .rfl' pl, ⟨0, bef_nil⟩, 0, by omega, bef_nil, by omega, by omega, by decide⟩
  refine ⟨h', t', fnM_rt ?_, o, b.tab⟩
  show mb_law_table [some (.ref n), some (.int s), none, none, none, none, none, none, none] h = _
  unfold mb_law_table
  refine (seq_nx (σ1 := TL n s h.length none none none none none none) (h1 := HD h []) (by simp [mDict, tabG])).trans ?_
  refine (seq_nx (σ1 := TL n s h.length none none none none x7 x8) (h1 := HD h' t') ?_).trans (by simp)
  rw [← e]
  have ok : (inB 0 && inB 32 && decide ((0 : Int) < 4) && decide ((4 : Int) < 1000000)) = true := rfl
  have rs : rgM 0 4 (Builtin.Range.rangeSize 0 32 4).toNat = FI.map .int := rfl
  have it : ∀ h, itR3 [.int 0, .int 32, .int 4] h = .ok (FI.map .int, fun _ => true) h := fun h => by
    unfold itR3
    simp only [ok, if_true, rs]
  simp only [sFor, mCons, mC, mNil, bindR_ok, it, bindS_ok]
end
end MP

namespace MP
open PySem PySem.Spec PyProof.Rows L2
theorem prt_sm (t : As En) (a f : Int) (w : Bool) : pta t (sm4 a f w) = prt4 t a f w := by
  unfold sm4 prt4
  rw [Int.add_zero, Int.add_zero]
theorem ixA_dv (t : As En) (a : Int) {e : En} (h : MH) (q : lk t a = some e) : mIxA (dvG enM t) (.int a) h = .ok (enM e) h := by
  unfold mIxA
  rw [isDk_dvG, if_pos rfl]
  unfold mDGet
  simp only [asD_dvG, mkey, look_tabG, q, Option.map_some]
theorem ixA_ref (t : As En) (a : Int) {e : En} (h : MH) (q : lk t a = some e) : mIxA (.ref h.length) (.int a) (h ++ [.dct (tabG enM t)]) = .ok (enM e) (h ++ [.dct (tabG enM t)]) := by
  have k : isDk (.ref h.length) (h ++ [.dct (tabG enM t)]) = true := by unfold isDk; rw [asD_newG]; rfl
  unfold mIxA
  rw [k, if_pos rfl]
  unfold mDGet
  simp only [asD_newG, mkey, look_tabG, q, Option.map_some]
theorem dict1_i (t : As En) (h : MH) : mDict1 finDR [dvG enM t] h = .ok (.ref h.length) (h ++ [.dct (tabG enM t)]) := by
  unfold mDict1
  simp only [asD_dvG, finDR]
section
variable {s : Int} {t : As En} {a f : Int} {w : Bool}
theorem pop_i {σ : Lo} {h : MH} {ro re : EM} {x : Int} {e : En} {N : Nat} (eo : ro σ (HD h t) = .ok (.ref N) (HD h t)) (er : re σ (HD h t) = .ok (.int x) (HD h t)) (hN : N = h.length) (q : lk t x = some e) (nd : ndk t) : m2D mDPop ro re σ (HD h t) = .ok (enM e) (HD h (dp t x)) := by
  subst hN
  have k : isDk (.ref h.length) (HD h t) = true := by unfold isDk; rw [asD_newG]; rfl
  unfold m2D
  rw [eo, bindR_ok, k, if_pos rfl, er, bindR_ok]
  unfold mDPop
  simp only [get_new, mkey, look_tabG, q, Option.map_some, nod_tabG enM nd, if_true, setH, set_new, drop_tabG]

theorem frV_old (h : MH) (n m : Nat) (hm : m < n) : frV h n 12 (.ref m) = some (.ref m) := by
  rw [frV]
  have : clV n (.ref m) = true := by rw [clV]; exact decide_eq_true hm
  rw [this]; rfl
end
end MP

namespace MP
open PySem PySem.Spec PyProof.Rows L2
theorem toD_ints (l : List Int) (h : MH) (k : Nat) : toD h (k + 2) (.lv (l.map .int)) = some (.list (l.map .int)) := by
  have e : mapO (toD h (k + 1)) (l.map .int) = some (l.map .int) := mapO_map fun _ _ => rfl
  rw [toD, e]; rfl
theorem okD_ints (l : List Int) : okD (.list (l.map .int)) = true := by rw [okD]; exact okDs_map (fun _ => by simp [okD]) l
theorem depth_ints (l : List Int) : PyData.depth (.list (l.map .int)) ≤ 1 := by
  rw [PyData.depth]
  have := depthAll_map_le (f := PyData.int) (n := 0) (fun _ => by simp [PyData.depth]) l
  omega
theorem shaped_ints (l : List Int) : SeqAt.shaped (.list (l.map .int)) = true := by
  unfold SeqAt.shaped
  rw [(okD_lay (okD_ints l)).1]
  have := depth_ints l
  simp; omega
theorem eqv_ints : ∀ l r : List Int, PyData.eqvAll (l.map .int) (r.map .int) = decide (l = r)
  | [], [] => by simp [PyData.eqvAll]
  | [], _ :: _ => by simp [PyData.eqvAll]
  | _ :: _, [] => by simp [PyData.eqvAll]
  | x :: l, y :: r => by
    rw [List.map_cons, List.map_cons, PyData.eqvAll, eqv_ints l r, PyData.eqv]
    by_cases z : x = y <;> by_cases z2 : l = r <;> simp [z, z2]
theorem eqA_ints (l r : List Int) (h : MH) : mEqA (.lv (l.map .int)) (.lv (r.map .int)) h = .ok (.bl (decide (l = r))) h := mEqA_ok (by
  unfold mEq eqMV
  simp only [toD_ints, shaped_ints, Bool.and_self, if_true, PyData.eqv, eqv_ints]
  rfl)
theorem neA_ints (l : List Int) (h : MH) : mNeA (.lv (l.map .int)) (.lv (l.map .int)) h = .ok (.bl false) h :=
  mNeA_ok (ne_okD (toD_ints l h 10) (toD_ints l h 10) (okD_ints l) (by have := depth_ints l; omega))
/-! the law's own look for stretches -/
def nonS : Str := Str.ofString "none"
def oW : Option En → Str
  | none => nonS
  | some e => gS e.g
def oF : Option En → Int
  | none => 0
  | some e => e.f
def oR : Option En → Str
  | none => nonS
  | some e => wS e.w
def oE (o : Option En) : MV := .tup [.str (oW o), .int (oF o), .str (oR o)]
def oED (o : Option En) : PyData := .tuple [.str (oW o), .int (oF o), .str (oR o)]
theorem ok_non : PyData.strOk nonS = true := by decide +kernel
theorem ok_oW (o : Option En) : PyData.strOk (oW o) = true := by
  cases o with
  | none => exact ok_non
  | some e => exact ok_gS e.g
theorem ok_oR (o : Option En) : PyData.strOk (oR o) = true := by
  cases o with
  | none => exact ok_non
  | some e => exact ok_wS e.w
theorem ne_st {a b : Str} (h : MH) (oa : PyData.strOk a = true) (ob : PyData.strOk b = true) : mNeA (.str a) (.str b) h = .ok (.bl (!(a == b))) h := mNeA_ok (by
  unfold mNe eqMV
  simp [toD, SeqAt.shaped, PyData.canLay0, PyData.depth, PyData.eqv, oa, ob])
theorem neA_nil_oE (l : List (Option En)) (h : MH) : mNeA (.lv (l.map oE)) (.lv []) h = .ok (.bl (!l.isEmpty)) h := mNeA_ok (by
  have e1 : toD h 12 (.lv (l.map oE)) = some (.list (l.map oED)) := by
    have e : mapO (toD h 11) (l.map oE) = some (l.map oED) := mapO_map fun _ _ => rfl
    rw [toD, e]; rfl
  have e2 : toD h 12 (.lv []) = some (.list []) := rfl
  have lay : ∀ l : List (Option En), PyData.canLayAll0 (l.map oED) = true := by
    intro l
    induction l with
    | nil => rfl
    | cons x l ih =>
      rw [List.map_cons, PyData.canLayAll0, ih]
      simp [oED, PyData.canLay0, PyData.canLayAll0, ok_oW, ok_oR]
  have sh : SeqAt.shaped (.list (l.map oED)) = true := by
    have dep := depthAll_map_le (f := oED) (n := 1) (fun x => by simp [oED, PyData.depth, PyData.depthAll]) l
    simp [SeqAt.shaped, PyData.canLay0, lay, PyData.depth]
    omega
  unfold mNe eqMV
  simp only [e1, e2, sh, show SeqAt.shaped (.list []) = true from rfl, Bool.and_self, if_true]
  cases l with
  | nil => rfl
  | cons x l => simp [PyData.eqv, PyData.eqvAll])
def odd (o0 o : Option En) : Bool := !(oW o == Str.ofString "small") || !(oR o == oR o0)
theorem get2_dv (t : As En) (x : Int) (h : MH) : mDGet2 (dvG enM t) (.int x) (.tup [.str nonS, .int 0, .str nonS]) h = .ok (oE (lk t x)) h := by
  unfold mDGet2
  simp only [asD_dvG, mkey, look_tabG]
  cases lk t x <;> rfl
theorem not_odd {o0 o : Option En} (h : odd o0 o = false) : ∃ f w, o = some ⟨false, f, w⟩ ∧ oR o0 = wS w := by
  unfold odd at h
  rw [Bool.or_eq_false_iff, Bool.not_eq_false', Bool.not_eq_false'] at h
  cases o with
  | none =>
    have : (nonS == Str.ofString "small") = false := by decide
    exact absurd h.1 (by show ¬ (nonS == Str.ofString "small") = true; rw [this]; decide)
  | some e =>
    obtain ⟨g, f, w⟩ := e
    have hg : g = false := by
      have := h.1
      cases g with
      | false => rfl
      | true => exact absurd this (by show ¬ (gS true == gS false) = true; rw [gS_eq]; decide)
    subst hg
    exact ⟨f, w, rfl, (eq_of_beq h.2).symm⟩
theorem law_fits_i (t : As En) (a : Int) (h : MH) : m_law_fits [dvG enM t, .int a] h = .ok (.bl (fitB t a)) h := by
  refine fnM_rt ?_
  show mb_law_fits [some (dvG enM t), some (.int a), none, none, none] h = _
  generalize hL : [lk t a, lk t (a + 1), lk t (a + 2), lk t (a + 3)] = L
  have len4 : (rgM 0 1 4).length ≤ SZ := by decide
  have z3 : 3 ≤ SZ := by decide
  have z0 : 0 ≤ SZ := by decide
  have z4 : 4 ≤ SZ := by decide
  have lc : lcGo (fun _ => true) (.nm 3) mYes le_law_fits_2 (rgM 0 1 4) (clrL [3] [some (dvG enM t), some (.int a), none, none, none]) h = .ok (L.map oE) h := by
    have r : rgM 0 1 4 = [.int 0, .int 1, .int 2, .int 3] := rfl
    have k := isDk_dvG h enM t
    have d0 := get2_dv t a h
    have d1 := get2_dv t (a + 1) h
    have d2 := get2_dv t (a + 2) h
    have d3 := get2_dv t (a + 3) h
    unfold nonS at d0 d1 d2 d3
    rw [r, ← hL]
    simp [lcGo, asP, clrL, le_law_fits_2, m3D, k, z3, d0, d1, d2, d3]
  have len : (L.map oE).length ≤ SZ := by rw [List.length_map, ← hL]; exact z4
  have i0 : mIxA (.lv (L.map oE)) (.int 0) h = .ok (oE (lk t a)) h := by rw [← hL]; rfl
  have ow : ∀ o, mIxA (oE o) (.int 0) h = .ok (.str (oW o)) h := fun _ => rfl
  have of : ∀ o, mIxA (oE o) (.int 1) h = .ok (.int (oF o)) h := fun _ => rfl
  have or' : ∀ o, mIxA (oE o) (.int 2) h = .ok (.str (oR o)) h := fun _ => rfl
  have lc2 : lcGo (fun _ => true) (.nm 4) lt_law_fits_0 le_law_fits_1 (L.map oE) (clrL [4] [some (dvG enM t), some (.int a), some (.lv (L.map oE)), none, none]) h = .ok ((L.filter (odd (lk t a))).map oE) h :=
    lcGo_map rfl fun o ho => ⟨_, rfl, by
      have n1 := ne_st h (ok_oW o) (show PyData.strOk (Str.ofString "small") = true from ok_gS false)
      have n2 := ne_st h (ok_oR o) (ok_oR (lk t a))
      generalize (MV.lv (L.map oE)) = LL at *
      unfold odd
      cases e : (oW o == Str.ofString "small") <;> rw [e] at n1 <;> simp [lt_law_fits_0, clrL, ow, or', i0, n1, n2], fun _ => by simp [le_law_fits_1, clrL]⟩
  have q := neA_nil_oE (L.filter (odd (lk t a))) h
  unfold mb_law_fits
  refine (seq_nx (σ1 := [some (dvG enM t), some (.int a), some (.lv (L.map oE)), none, none]) (h1 := h) (by simp only [sSet, mLc, mCons, mC, mNil, bindR_ok, itR1_int (show inB 4 = true from rfl), Int.reduceToNat, if_pos len4, lc, finV, bindS_ok, List.set_cons_succ, List.set_cons_zero])).trans ?_
  by_cases c : (L.filter (odd (lk t a))).isEmpty = true
  · rw [c] at q
    refine (seq_nx (σ1 := [some (dvG enM t), some (.int a), some (.lv (L.map oE)), none, none]) (h1 := h) (by simp only [sIf, mB, m2, mN, mLc, iL, mVar, mNil, List.getElem?_cons_succ, List.getElem?_cons_zero, bindR_ok, itL, if_pos len, lc2, finV, mkLv, List.length_nil, if_pos z0, q, Bool.not_true, isB, bindS_ok, Bool.false_eq_true, if_false, sNil])).trans ?_
    have all : ∀ o ∈ L, odd (lk t a) o = false := fun o ho => by
      have := List.filter_eq_nil_iff.mp (List.isEmpty_iff.mp c) o ho
      simpa using this
    obtain ⟨f0, w, e0, r0⟩ := not_odd (all (lk t a) (by rw [← hL]; simp))
    obtain ⟨f1, w1, e1, r1⟩ := not_odd (all (lk t (a + 1)) (by rw [← hL]; simp))
    obtain ⟨f2, w2, e2, r2⟩ := not_odd (all (lk t (a + 2)) (by rw [← hL]; simp))
    obtain ⟨f3, w3, e3, r3⟩ := not_odd (all (lk t (a + 3)) (by rw [← hL]; simp))
    have win : ∀ {u v : Bool}, wS u = wS v → u = v := fun {u v} e => by
      have := wS_eq u v
      rw [e] at this
      simpa using this.symm
    have := win (r0.symm.trans r1)
    subst this
    have := win (r0.symm.trans r2)
    subst this
    have := win (r0.symm.trans r3)
    subst this
    have fb : fitB t a = (decide (f0 % 4 = 0) && decide ([0, f1 - f0, f2 - f0, f3 - f0] = [0, 1, 2, 3])) := by
      unfold fitB
      rw [e0, e1, e2, e3]
      have x1 : decide (f1 = f0 + 1) = decide (f1 - f0 = 1) := by by_cases z : f1 = f0 + 1 <;> simp <;> omega
      have x2 : decide (f2 = f0 + 2) = decide (f2 - f0 = 2) := by by_cases z : f2 = f0 + 2 <;> simp <;> omega
      have x3 : decide (f3 = f0 + 3) = decide (f3 - f0 = 3) := by by_cases z : f3 = f0 + 3 <;> simp <;> omega
      simp only [x1, x2, x3]
      simp [Bool.and_assoc]
    have lc3 : lcGo (fun _ => true) (.nm 4) mYes le_law_fits_0 (L.map oE) (clrL [4] [some (dvG enM t), some (.int a), some (.lv (L.map oE)), none, none]) h = .ok (([0, f1 - f0, f2 - f0, f3 - f0] : List Int).map .int) h := by
      have T : lcGo (fun _ => true) (.nm 4) mYes le_law_fits_0 (L.map oE) (clrL [4] [some (dvG enM t), some (.int a), some (.lv (L.map oE)), none, none]) h = .ok (L.map fun o => .int (oF o - oF (lk t a))) h :=
        lcGo_all rfl fun o ho => ⟨_, rfl, by
          generalize (MV.lv (L.map oE)) = LL at *
          simp [le_law_fits_0, clrL, of, i0]⟩
      rw [T, ← hL, e0, e1, e2, e3]
      simp [oF]
    have q3 := eqA_ints [0, f1 - f0, f2 - f0, f3 - f0] [0, 1, 2, 3] h
    have m4 := mod_int f0 4 h (by decide)
    have if0 : mIxA (oE (lk t a)) (.int 1) h = .ok (.int f0) h := by rw [e0]; rfl
    have r4 : (([0, 1, 2, 3] : List Int).map MV.int) = [.int 0, .int 1, .int 2, .int 3] := rfl
    rw [r4] at q3
    rw [fb]
    by_cases z : f0 % 4 = 0
    · simp only [sRet, mAndV, m2, mN, mLc, iL, mCons, mC, mVar, mNil, List.getElem?_cons_succ, List.getElem?_cons_zero, bindR_ok, i0, if0, m4, eqA_int, decide_eq_true z, isTru, Bool.not_true, Bool.false_eq_true, if_false, if_true, itL, if_pos len, lc3, finV, mkLv, List.length_cons, List.length_nil, if_pos z4, q3, bindS_ok, Bool.true_and]
    · simp only [sRet, mAndV, m2, mN, mLc, iL, mCons, mC, mVar, mNil, List.getElem?_cons_succ, List.getElem?_cons_zero, bindR_ok, i0, if0, m4, eqA_int, decide_eq_false z, isTru, Bool.false_eq_true, if_false, bindS_ok, Bool.false_and]
  · have c' : (L.filter (odd (lk t a))).isEmpty = false := (Bool.not_eq_true _).mp c
    rw [c'] at q
    have fb : fitB t a = false := by
      cases e : fitB t a with
      | false => rfl
      | true =>
        exfalso
        obtain ⟨f, w, m, e0, e1, e2, e3⟩ := fit_iff.mp e
        refine c (List.isEmpty_iff.mpr (List.filter_eq_nil_iff.mpr fun o ho => ?_))
        rw [← hL, e0, e1, e2, e3] at ho
        have key : ∀ f' : Int, odd (lk t a) (some ⟨false, f', w⟩) = false := fun f' => by
          unfold odd
          rw [e0]
          show (!(gS false == gS false) || !(wS w == wS w)) = false
          simp
        simp only [List.mem_cons, List.not_mem_nil, or_false] at ho
        rcases ho with rfl | rfl | rfl | rfl <;> (rw [key]; decide)
    rw [fb]
    simp only [sSeq, sIf, mB, m2, mN, mLc, iL, mC, mVar, mNil, List.getElem?_cons_succ, List.getElem?_cons_zero, bindR_ok, itL, if_pos len, lc2, finV, mkLv, List.length_nil, if_pos z0, q, Bool.not_false, isB, bindS_ok, if_true, sRet]
theorem law_fits_F (t : As En) (a : Int) (h : MH) : cF 2 m_law_fits [dvG enM t, .int a] h = .ok (.bl (fitB t a)) h := cF_val0 rfl (law_fits_i t a h)
end MP

namespace MP
open PySem PySem.Spec PyProof.Rows L2
/-! the law's own covered -/
abbrev HC (h : MH) (u : As Cv) : MH := h ++ [.dct (tabG cvM u)]
abbrev CL (t : As En) (N : Nat) (x2 x3 x4 x5 x6 : Option MV) : Lo := [some (dvG enM t), some (.ref N), x2, x3, x4, x5, x6]
section
variable {t : As En} {u : As Cv} {h : MH} {N : Nat}
theorem cput_i {a f k : Int} {w : Bool} {g : Str} (hN : N = h.length) (nd : ndk u) (z : u.length < 5000) : sGc [6] lb_law_covered_0 (CL t N (some (.int a)) (some (.str g)) (some (.int f)) (some (.str (wS w))) (some (.int k))) (HC h u) = .nx (CL t N (some (.int a)) (some (.str g)) (some (.int f)) (some (.str (wS w))) none) (HC h (pt u (a + k) (f + k, w))) := by
  subst hN
  have z2 : 2 ≤ SZ := by decide
  have st := setA_dct (rv := mN mkTup (mCons (m2 (mAdd finV) (mVar 4) (mVar 6)) (mCons (mVar 5) mNil))) (ro := mVar 1) (ri := m2 (mAdd finV) (mVar 2) (mVar 6)) (σ := CL t h.length (some (.int a)) (some (.str g)) (some (.int f)) (some (.str (wS w))) (some (.int k))) (h := h) (l := tabG cvM u) (k := .int (a + k)) (v := cvM (f + k, w)) (kk := .inl (a + k)) (by simp [z2, cvM]) rfl (by simp) rfl (by rw [len_tabG]; exact Nat.lt_of_lt_of_le z (by decide)) (nod_tabG cvM nd)
  rw [put_tabG] at st
  exact sGc_le (show lb_law_covered_0 _ _ = _ from st) (by rw [List.length_append, List.length_append]; exact Nat.le_refl _)
theorem parts_great (a f : Int) (w : Bool) : parts a ⟨true, f, w⟩ = [(a + 0, (f + 0, w)), (a + 1, (f + 1, w)), (a + 2, (f + 2, w)), (a + 3, (f + 3, w))] := rfl
theorem parts_small (a f : Int) (w : Bool) : parts a ⟨false, f, w⟩ = [(a + 0, (f + 0, w))] := rfl
theorem cinn_i {a : Int} {e : En} (hN : N = h.length) (nd : ndk u) (z : u.length < 4990) : forGo (fun _ => true) (gmName 6) (sGc [6] lb_law_covered_0) (rgM 0 1 (many e)) (CL t N (some (.int a)) (some (.str (gS e.g))) (some (.int e.f)) (some (.str (wS e.w))) none) (HC h u) = .nx (CL t N (some (.int a)) (some (.str (gS e.g))) (some (.int e.f)) (some (.str (wS e.w))) none) (HC h (pta u (parts a e))) := by
  obtain ⟨g, f, w⟩ := e
  cases g with
  | false =>
    have r : rgM 0 1 (many ⟨false, f, w⟩) = [.int 0] := rfl
    have s0 := cput_i (t := t) (a := a) (f := f) (k := 0) (w := w) (g := gS false) hN nd (by omega)
    rw [r, parts_small]
    simp only [forGo, if_true, gmName, List.set_cons_succ, List.set_cons_zero, s0]
    rfl
  | true =>
    have r : rgM 0 1 (many ⟨true, f, w⟩) = [.int 0, .int 1, .int 2, .int 3] := rfl
    have l0 := len_pt u (a + 0) (f + 0, w)
    have n0 := ndk_pt nd (a + 0) (f + 0, w)
    have s0 := cput_i (t := t) (a := a) (f := f) (k := 0) (w := w) (g := gS true) hN nd (by omega)
    have l1 := len_pt (pt u (a + 0) (f + 0, w)) (a + 1) (f + 1, w)
    have n1 := ndk_pt n0 (a + 1) (f + 1, w)
    have s1 := cput_i (t := t) (a := a) (f := f) (k := 1) (w := w) (g := gS true) hN n0 (by omega)
    have l2 := len_pt (pt (pt u (a + 0) (f + 0, w)) (a + 1) (f + 1, w)) (a + 2) (f + 2, w)
    have n2 := ndk_pt n1 (a + 2) (f + 2, w)
    have s2 := cput_i (t := t) (a := a) (f := f) (k := 2) (w := w) (g := gS true) hN n1 (by omega)
    have s3 := cput_i (t := t) (a := a) (f := f) (k := 3) (w := w) (g := gS true) hN n2 (by omega)
    rw [r, parts_great]
    simp only [forGo, if_true, gmName, List.set_cons_succ, List.set_cons_zero, s0, s1, s2, s3]
    rfl
theorem cvs_app (a b : As En) : cvs (a ++ b) = cvs a ++ cvs b := by unfold cvs; rw [List.flatMap_append]
theorem pta_pta {α : Type} (t a b : As α) : pta t (a ++ b) = pta (pta t a) b := by unfold pta; rw [List.foldl_append]
theorem law_covered_i (nd : ndk t) (hl : t.length ≤ 200) (h : MH) : m_law_covered [dvG enM t] h = .ok (.ref h.length) (h ++ [.dct (tabG cvM (cov t))]) := by
  obtain ⟨σ', G, e, dn, e1, rfl, rfl⟩ := forGo_list (chk := fun _ => true) (g := gmName 2) (body := sGc [2, 3, 4, 5, 6] lb_law_covered_1) (q := fun p : Int × En => MV.int p.1)
    (fun xs σ G => ∃ dn, dn ++ xs = t ∧ σ = CL t h.length none none none none none ∧ G = HC h (pta [] (cvs dn)))
    (fun p xs σ G ⟨dn, e1, hσ, hG⟩ => by
      subst hσ hG
      obtain ⟨a, e⟩ := p
      have q : lk t a = some e := lk_of nd (by rw [← e1]; simp)
      have ld : dn.length ≤ 200 := by rw [← e1] at hl; simp at hl; omega
      have lc : (pta [] (cvs dn)).length < 4990 := by
        have h1 := len_pta ([] : As Cv) (cvs dn)
        have h2 := len_cvs dn
        simp at h1
        omega
      have nc : ndk (pta [] (cvs dn)) := ndk_pta (t := []) (show ([] : List Int).Nodup from List.Pairwise.nil) _
      have inn := cinn_i (t := t) (h := h) (N := h.length) (a := a) (e := e) rfl nc lc
      have i1 := ixA_dv t a (HC h (pta [] (cvs dn))) q
      have z2 : 2 ≤ SZ := by decide
      have many_ix : ∀ G, mIxA (.lv [.int 1, .int 4]) (.int (if e.g then 1 else 0)) G = .ok (.int (many e)) G := fun G => by
        unfold many
        cases e.g <;> rfl
      have mi : ∀ (b : Bool) G, mInt [.bl b] G = .ok (.int (if b then 1 else 0)) G := fun _ _ => rfl
      have B : lb_law_covered_1 (CL t h.length (some (.int a)) none none none none) (HC h (pta [] (cvs dn))) = .nx (CL t h.length (some (.int a)) (some (.str (gS e.g))) (some (.int e.f)) (some (.str (wS e.w))) none) (HC h (pta (pta [] (cvs dn)) (parts a e))) := by
        unfold lb_law_covered_1
        refine (seq_nx (σ1 := CL t h.length (some (.int a)) (some (.str (gS e.g))) (some (.int e.f)) (some (.str (wS e.w))) none) (h1 := HC h (pta [] (cvs dn))) (by simp [i1]; simp [enM])).trans ?_
        have hin : inB ((many e : Nat) : Int) = true := by
          unfold many
          cases e.g <;> rfl
        refine (sFor_rg1 (j := ((many e : Nat) : Int)) (h1 := HC h (pta [] (cvs dn))) ?_ hin).trans ?_
        · simp only [mCons, m2, mN, mC, mVar, mNil, List.getElem?_cons_succ, List.getElem?_cons_zero, bindR_ok, mkLv, List.length_cons, List.length_nil, if_pos z2, eq_great, mi, many_ix]
        · rw [Int.toNat_natCast]; exact inn
      refine ⟨rfl, _, _, rfl, _, _, sGc_le B (by rw [List.length_append, List.length_append]; exact Nat.le_refl _), dn ++ [(a, e)], by rw [← e1]; simp, rfl, ?_⟩
      have : cvs (dn ++ [(a, e)]) = cvs dn ++ parts a e := by rw [cvs_app]; simp [cvs]
      rw [this, pta_pta])
    (fun _ _ _ => rfl) t (CL t h.length none none none none none) (HC h []) ⟨[], rfl, rfl, rfl⟩
  have e1 : dn = t := by simpa using e1
  subst e1
  refine fnM_rt ?_
  show mb_law_covered [some (dvG enM dn), none, none, none, none, none, none] h = _
  unfold mb_law_covered
  refine (seq_nx (σ1 := CL dn h.length none none none none none) (h1 := HC h []) (by simp [mDict, tabG])).trans ?_
  refine (seq_nx (σ1 := CL dn h.length none none none none none) (h1 := HC h (pta [] (cvs dn))) ?_).trans (by simp; rfl)
  rw [← e]
  have it : itD (dvG enM dn) (HC h []) = .ok (dn.map fun p => MV.int p.1, fun _ => true) (HC h []) := rfl
  unfold sFor
  simp only [iD, mVar, List.getElem?_cons_zero, bindR_ok, it, bindS_ok]
theorem law_covered_F (nd : ndk t) (hl : t.length ≤ 200) (h : MH) : cF 1 m_law_covered [dvG enM t] h = .ok (dvG cvM (cov t)) h := cF_dctG h dat_cv rfl (law_covered_i nd hl h)
end
end MP

namespace MP
open PySem PySem.Spec PyProof.Rows L2
/-- a small dict of entries -/
structure Sm (t : As En) : Prop where
  nd : ndk t
  bd : ∀ a e, lk t a = some e → 0 ≤ a ∧ a < 100 ∧ 0 ≤ e.f ∧ e.f < 100
theorem Sm.len {t : As En} (T : Sm t) : t.length ≤ 100 := by
  have key : ∀ {l D : List Int}, l.Nodup → (∀ x ∈ l, x ∈ D) → l.length ≤ D.length := fun {l D} nd h => nodup_le nd h
  have := key (D := (List.range 100).map fun i : Nat => (i : Int)) T.nd fun a ha => by
    cases e : lk t a with
    | none => exact absurd ha (lk_none.mp e)
    | some x =>
      have := T.bd a x e
      exact List.mem_map.mpr ⟨a.toNat, List.mem_range.mpr (by omega), by omega⟩
  simpa using this
theorem Sm.put {t : As En} (T : Sm t) {a : Int} {e : En} (h0 : 0 ≤ a) (h1 : a < 100) (f0 : 0 ≤ e.f) (f1 : e.f < 100) : Sm (pt t a e) := ⟨ndk_pt T.nd a e, fun b x h => by
  rw [lk_pt] at h
  split at h
  · rename_i z; cases h; subst z; exact ⟨h0, h1, f0, f1⟩
  · exact T.bd b x h⟩
theorem Sm.drop {t : As En} (T : Sm t) (a : Int) : Sm (dp t a) := ⟨ndk_dp T.nd a, fun b x h => by
  rw [lk_dp T.nd] at h
  split at h
  · cases h
  · exact T.bd b x h⟩
theorem Sm.sm {t : As En} (T : Sm t) {a f : Int} {w : Bool} (h0 : 0 ≤ a) (h1 : a < 90) (f0 : 0 ≤ f) (f1 : f < 90) : Sm (pta t (sm4 a f w)) :=
  (((T.put (a := a + 0) (e := ⟨false, f + 0, w⟩) (by omega) (by omega) (by show 0 ≤ f + 0; omega) (by show f + 0 < 100; omega)).put (a := a + 1) (e := ⟨false, f + 1, w⟩) (by omega) (by omega) (by show 0 ≤ f + 1; omega) (by show f + 1 < 100; omega)).put (a := a + 2) (e := ⟨false, f + 2, w⟩) (by omega) (by omega) (by show 0 ≤ f + 2; omega) (by show f + 2 < 100; omega)).put (a := a + 3) (e := ⟨false, f + 3, w⟩) (by omega) (by omega) (by show 0 ≤ f + 3; omega) (by show f + 3 < 100; omega)
theorem Tab.sm {s : Int} {t : As En} (hs : isz s = true) (T : Tab s t) : Sm t := ⟨T.nd, fun a e h => by
  have hz := isz_le hs
  have h1 := T.ad a e h
  have h2 := T.ok a e h
  have h3 := h2.1
  have h4 := h2.2.1
  omega⟩
section
variable {s v : Int} {t u : As En} {n N : Nat}
abbrev OL (n : Nat) (t : As En) (s : Int) (N : Nat) (v : Int) (x5 x6 x7 x8 x9 x10 : Option MV) : Lo := [some (.ref n), some (dvG enM t), some (.int s), some (.ref N), some (.int v), x5, x6, x7, x8, x9, x10]
theorem some_pta {α : Type} {u r : As α} {x : Int} (h : (lk u x).isSome = true) : (lk (pta u r) x).isSome = true := by
  induction r generalizing u with
  | nil => exact h
  | cons p r ih =>
    obtain ⟨a, y⟩ := p
    rw [pta_cons]
    refine ih ?_
    rw [lk_pt]
    split
    · rfl
    · exact h
/-- the great ones parted -/
theorem part_i {h : MH} {a : Int} {e : En} {x10 : Option MV} (hN : N = h.length) (T : Sm t) (U : Sm u) (q : lk t a = some e) (h90 : a < 90 ∧ e.f < 90) : ∃ u', sGc [5, 6, 7, 8] lb_law_other_2 (OL n t s N v (some (.int a)) none none none none x10) (HD h u) = .nx (OL n t s N v none none none none none x10) (HD h u') ∧ Sm u' ∧ (∀ x, (lk u x).isSome = true → (lk u' x).isSome = true) ∧ (2 ≤ v → u' = u) := by
  subst hN
  have b := T.bd a e q
  have i1 := ixA_dv t a (HD h u) q
  have S : sAsg (m2 mIxA (mVar 1) (mVar 5)) (gmTup (gmCons (gmName 6) (gmCons (gmName 7) (gmCons (gmName 8) gmNil))) 3) (OL n t s h.length v (some (.int a)) none none none none x10) (HD h u) = .nx (OL n t s h.length v (some (.int a)) (some (.str (gS e.g))) (some (.int e.f)) (some (.str (wS e.w))) none x10) (HD h u) := by
    simp [i1]; simp [enM]
  by_cases c : e.g = true ∧ v < 2
  · refine ⟨pta u (sm4 a e.f e.w), ?_, U.sm b.1 h90.1 b.2.2.1 h90.2, fun x hx => some_pta hx, fun hv => by omega⟩
    have z2 : 2 ≤ SZ := by decide
    have z3 : 3 ≤ SZ := by decide
    have len4 : (rgM 0 1 4).length ≤ SZ := by decide
    have lc : lcGo (fun _ => true) (.nm 10) mYes le_law_other_0 (rgM 0 1 4) (clrL [10] (OL n t s h.length v (some (.int a)) (some (.str (gS e.g))) (some (.int e.f)) (some (.str (wS e.w))) none x10)) (HD h u) = .ok ((tabG enM (sm4 a e.f e.w)).map fun p => .tup [p.1, p.2]) (HD h u) := by
      have r : rgM 0 1 4 = [.int 0, .int 1, .int 2, .int 3] := rfl
      rw [r]
      simp [lcGo, asP, clrL, le_law_other_0, z2, z3, tabG, sm4, enM, gS]
    have up := upd_go (ro := mVar 3) (rs := mCons (mLc (fun σ h => bindR ((mCons (mC (.int 4)) mNil) σ h) itR1) (.nm 10) mYes le_law_other_0 [10] finV) mNil) (σ := OL n t s h.length v (some (.int a)) (some (.str (gS e.g))) (some (.int e.f)) (some (.str (wS e.w))) none x10) (h := h) (t := u) (u := sm4 a e.f e.w) (N := h.length) rfl (by simp only [mCons, mLc, mC, mNil, bindR_ok, itR1_int (show inB 4 = true from rfl), Int.reduceToNat, if_pos len4, lc, finV]) rfl U.nd (Nat.le_trans (Nat.add_le_add_right U.len 4) (by decide))
    have B : lb_law_other_2 (OL n t s h.length v (some (.int a)) none none none none x10) (HD h u) = .nx (OL n t s h.length v (some (.int a)) (some (.str (gS e.g))) (some (.int e.f)) (some (.str (wS e.w))) none x10) (HD h (pta u (sm4 a e.f e.w))) := by
      unfold lb_law_other_2
      refine (seq_nx S).trans ?_
      have eg : ∀ G, mEqA (.str (gS e.g)) (.str (Str.ofString "great")) G = .ok (.bl true) G := fun G => by
        rw [eq_great, c.1]
      simp only [sIf, mAnd, mB, m2, mVar, mC, List.getElem?_cons_succ, List.getElem?_cons_zero, bindR_ok, eg, isB, if_true, lt_int, decide_eq_true c.2, bindS_ok, sExpr, up]
    exact sGc_le B (by rw [List.length_append, List.length_append]; exact Nat.le_refl _)
  · refine ⟨u, ?_, U, fun x hx => hx, fun _ => rfl⟩
    have B : lb_law_other_2 (OL n t s h.length v (some (.int a)) none none none none x10) (HD h u) = .nx (OL n t s h.length v (some (.int a)) (some (.str (gS e.g))) (some (.int e.f)) (some (.str (wS e.w))) none x10) (HD h u) := by
      unfold lb_law_other_2
      refine (seq_nx S).trans ?_
      cases hg : e.g with
      | false => simp only [sIf, mAnd, mB, m2, mVar, mC, List.getElem?_cons_succ, List.getElem?_cons_zero, bindR_ok, eq_great, isB, Bool.false_eq_true, if_false, bindS_ok, sNil]
      | true =>
        have hv : ¬ v < 2 := fun h => c ⟨hg, h⟩
        simp only [sIf, mAnd, mB, m2, mVar, mC, List.getElem?_cons_succ, List.getElem?_cons_zero, bindR_ok, eq_great, isB, if_true, lt_int, decide_eq_false hv, Bool.false_eq_true, if_false, bindS_ok, sNil]
    exact sGc_le B (Nat.le_refl _)
/-- a small stretch made great -/
theorem made_i {h : MH} {a : Int} (hN : N = h.length) (hs : isz s = true) (T : Tab s t) (U : Sm u) (has : ∀ k : Int, 0 ≤ k → k < 4 → (lk t (a + k)).isSome = true → (lk u (a + k)).isSome = true) : ∃ u', sGc [9] lb_law_other_1 (OL n t s N v none none none none (some (.int a)) none) (HD h u) = .nx (OL n t s N v none none none none none none) (HD h u') ∧ Sm u' ∧ (∀ x, ¬ (a ≤ x ∧ x < a + 4) → (lk u x).isSome = true → (lk u' x).isSome = true) ∧ (2 ≤ v → u' = u) := by
  subst hN
  have lf := law_fits_F t a (HD h u)
  by_cases c : v = 1 ∧ fitB t a = true
  · obtain ⟨f, w, F⟩ := Fit.of c.2
    have hz := isz_le hs
    have ad := T.ad a _ F.e0
    have ok := T.ok a _ F.e0
    have o1 : 0 ≤ f := ok.1
    have o2 : f ≤ s - 1 := ok.2.1
    have ex : ∀ k : Int, 0 ≤ k → k < 4 → ∃ e, lk u (a + k) = some e := fun k k0 k4 => Option.isSome_iff_exists.mp (has k k0 k4 (by rw [F.at k0 k4]; rfl))
    obtain ⟨e0, q0⟩ := ex 0 (by omega) (by omega)
    obtain ⟨e1, q1⟩ := ex 1 (by omega) (by omega)
    obtain ⟨e2, q2⟩ := ex 2 (by omega) (by omega)
    obtain ⟨e3, q3⟩ := ex 3 (by omega) (by omega)
    have n0 := U.nd
    have n1 := ndk_dp n0 (a + 0)
    have n2 := ndk_dp n1 (a + 1)
    have n3 := ndk_dp n2 (a + 2)
    have n4 := ndk_dp n3 (a + 3)
    have st : ∀ (k : Int) (r : As En) (e : En), lk r (a + k) = some e → ndk r → sGc [10] lb_law_other_0 (OL n t s h.length v none none none none (some (.int a)) (some (.int k))) (HD h r) = .nx (OL n t s h.length v none none none none (some (.int a)) none) (HD h (dp r (a + k))) := fun k r e q nd => by
      have p := pop_i (σ := OL n t s h.length v none none none none (some (.int a)) (some (.int k))) (ro := mVar 3) (re := m2 (mAdd finV) (mVar 9) (mVar 10)) (h := h) (x := a + k) (N := h.length) rfl (by simp) rfl q nd
      refine sGc_le (σ2 := OL n t s h.length v none none none none (some (.int a)) (some (.int k))) (h2 := HD h (dp r (a + k))) ?_ (by rw [List.length_append, List.length_append]; exact Nat.le_refl _)
      unfold lb_law_other_0
      rw [sExpr, p, bindS_ok]
    have s0 := st 0 u _ q0 n0
    have s1 := st 1 _ e1 (by rw [lk_dp n0, if_neg (by omega)]; exact q1) n1
    have s2 := st 2 _ e2 (by rw [lk_dp n1, if_neg (by omega), lk_dp n0, if_neg (by omega)]; exact q2) n2
    have s3 := st 3 _ e3 (by rw [lk_dp n2, if_neg (by omega), lk_dp n1, if_neg (by omega), lk_dp n0, if_neg (by omega)]; exact q3) n3
    have S4 := (((U.drop (a + 0)).drop (a + 1)).drop (a + 2)).drop (a + 3)
    have lk4 : ∀ x, ¬ (a ≤ x ∧ x < a + 4) → lk (dp (dp (dp (dp u (a + 0)) (a + 1)) (a + 2)) (a + 3)) x = lk u x := fun x hx => by
      rw [lk_dp n3, if_neg (by omega), lk_dp n2, if_neg (by omega), lk_dp n1, if_neg (by omega), lk_dp n0, if_neg (by omega)]
    generalize hr : dp (dp (dp (dp u (a + 0)) (a + 1)) (a + 2)) (a + 3) = r at *
    refine ⟨pt r a ⟨true, f, w⟩, ?_, S4.put ad.1 (by omega) o1 (by show f < 100; omega), fun x hx hh => ?_, fun hv => by omega⟩
    · have z3 : 3 ≤ SZ := by decide
      have g1 := ixA_dv t a (HD h r) F.e0
      have e1' := ix1_en ⟨false, f, w⟩ (HD h r)
      have e2' := ix2_en ⟨false, f, w⟩ (HD h r)
      have stA := setA_go (rv := mN mkTup (mCons (mC (.str (Str.ofString "great"))) (mCons (m2 mIxA (m2 mIxA (mVar 1) (mVar 9)) (mC (.int 1))) (mCons (m2 mIxA (m2 mIxA (mVar 1) (mVar 9)) (mC (.int 2))) mNil)))) (ro := mVar 3) (ri := mVar 9) (σ := OL n t s h.length v none none none none (some (.int a)) none) (h0 := HD h r) (h1 := HD h r) (h2 := h) (l := tabG enM r) (k := .int a) (v := enM ⟨true, f, w⟩) (kk := .inl a) (N := h.length)
        (by simp only [mN, mCons, mC, m2, mVar, mNil, List.getElem?_cons_succ, List.getElem?_cons_zero, bindR_ok, g1, e1', e2', mkTup, List.length_cons, List.length_nil, if_pos z3]; rfl) rfl rfl rfl rfl (by rw [len_tabG]; exact Nat.lt_of_le_of_lt S4.len (by decide)) (nod_tabG enM n4)
      rw [put_tabG] at stA
      have loop : forGo (fun _ => true) (gmName 10) (sGc [10] lb_law_other_0) (rgM 0 1 4) (OL n t s h.length v none none none none (some (.int a)) none) (HD h u) = .nx (OL n t s h.length v none none none none (some (.int a)) none) (HD h r) := by
        have rr : rgM 0 1 4 = [.int 0, .int 1, .int 2, .int 3] := rfl
        rw [rr]
        simp only [forGo, if_true, gmName, List.set_cons_succ, List.set_cons_zero, s0, s1, s2, s3]
      have lp : sFor (fun σ h => bindR ((mCons (mC (.int 4)) mNil) σ h) itR1) (gmName 10) (sGc [10] lb_law_other_0) (OL n t s h.length v none none none none (some (.int a)) none) (HD h u) = .nx (OL n t s h.length v none none none none (some (.int a)) none) (HD h r) := (sFor_rg1 (j := 4) (h1 := HD h u) rfl rfl).trans loop
      have B : lb_law_other_1 (OL n t s h.length v none none none none (some (.int a)) none) (HD h u) = .nx (OL n t s h.length v none none none none (some (.int a)) none) (HD h (pt r a ⟨true, f, w⟩)) := by
        rw [c.2] at lf
        unfold lb_law_other_1
        refine Eq.trans ?_ ((seq_nx lp).trans stA)
        simp only [sIf, mAnd, mB, mTru, m2, mN, mCons, mVar, mC, mNil, List.getElem?_cons_succ, List.getElem?_cons_zero, bindR_ok, eqA_int, decide_eq_true c.1, isB, if_true, lf, isTru, bindS_ok]
      exact sGc_le B (by rw [List.length_append, List.length_append]; exact Nat.le_refl _)
    · rw [lk_pt]
      split
      · rfl
      · rw [lk4 x hx]; exact hh
  · refine ⟨u, ?_, U, fun x _ hx => hx, fun _ => rfl⟩
    have B : lb_law_other_1 (OL n t s h.length v none none none none (some (.int a)) none) (HD h u) = .nx (OL n t s h.length v none none none none (some (.int a)) none) (HD h u) := by
      unfold lb_law_other_1
      by_cases hv : v = 1
      · have hf : fitB t a = false := by
          cases e : fitB t a with
          | false => rfl
          | true => exact absurd ⟨hv, e⟩ c
        rw [hf] at lf
        simp only [sIf, mAnd, mB, mTru, m2, mN, mCons, mVar, mC, mNil, List.getElem?_cons_succ, List.getElem?_cons_zero, bindR_ok, eqA_int, decide_eq_true hv, isB, if_true, lf, isTru, Bool.false_eq_true, if_false, bindS_ok, sNil]
      · simp only [sIf, mAnd, mB, mTru, m2, mN, mCons, mVar, mC, mNil, List.getElem?_cons_succ, List.getElem?_cons_zero, bindR_ok, eqA_int, decide_eq_false hv, isB, Bool.false_eq_true, if_false, bindS_ok, sNil]
    exact sGc_le B (Nat.le_refl _)
end
end MP

namespace MP
open PySem PySem.Spec PyProof.Rows L2
/-- a heap of lists of whole numbers -/
def Flt (h : MH) : Prop := ∀ o ∈ h, ∃ l : List Int, o = .lst (l.map .int)
theorem Flt.cl {h : MH} (f : Flt h) (n : Nat) : clH n h = true := by
  induction h with
  | nil => rfl
  | cons o h ih =>
    obtain ⟨l, rfl⟩ := f o List.mem_cons_self
    rw [clH, clO, cls_pure n (pure_ints l), ih fun o ho => f o (List.mem_cons_of_mem _ ho)]; rfl
theorem Flt.onl {n : Nat} {h h' : MH} (f : Flt h) (o : Onl n h h') : Flt h' := by
  obtain ⟨a, b, rfl, _⟩ := o
  intro x hx
  rcases List.mem_or_eq_of_mem_set hx with hx | rfl
  · exact f x hx
  · exact ⟨[a, b], rfl⟩
theorem clH_app (n : Nat) : ∀ {h g : MH}, clH n h = true → clH n g = true → clH n (h ++ g) = true
  | [], g, _, b => b
  | o :: h, g, a, b => by
    rw [clH, Bool.and_eq_true] at a
    rw [List.cons_append, clH, a.1, clH_app n a.2 b]; rfl
theorem clKV_tab (n : Nat) : ∀ t : As En, clKV n (tabG enM t) = true
  | [] => rfl
  | p :: t => by
    show (clV n (enM p.2) && clKV n (tabG enM t)) = true
    rw [cl_pure n (dat_en.pu p.2), clKV_tab n t]; rfl
theorem cl_HD {h : MH} (f : Flt h) (t : As En) (n : Nat) : clH n (HD h t) = true := clH_app n (f.cl n) (by rw [clH, clO, clKV_tab]; rfl)
section
variable {s v : Int} {t u : As En} {n N : Nat}
theorem tab_pure (t : As En) : pureVs ((tabG enM t).map (·.2)) = true := by
  unfold tabG
  rw [List.map_map]
  exact pures_map (f := fun p : Int × En => enM p.2) (fun p => dat_en.pu p.2) t
theorem frV_dct (h : MH) (n : Nat) (hn : n = h.length) (t : As En) : frV (h ++ [.dct (tabG enM t)]) n 12 (.ref n) = some (dvG enM t) := by
  subst hn
  rw [frV]
  have : clV h.length (.ref h.length) = false := by rw [clV]; simp
  rw [this]
  simp only [Bool.false_eq_true, if_false, get_new, frs_pure _ _ _ (tab_pure t), Option.map_some]
  rw [fin_dvG]
/-- a new dict handed back, while the pool has changed -/
theorem gcF_dct {h h' : MH} (hh : h'.length = h.length) (cl : clH h.length h' = true) (t : As En) : gcF h (.ref h.length) (h' ++ [.dct (tabG enM t)]) = .ok (dvG enM t) h' := by
  have tk : (h' ++ [MO.dct (tabG enM t)]).take h.length = h' := by rw [← hh]; simp
  have kp : keptH h (h' ++ [MO.dct (tabG enM t)]) = true := by
    unfold keptH
    rw [tk, cl, Bool.or_true]
  have l : ¬ (h' ++ [MO.dct (tabG enM t)]).length ≤ h.length := by rw [List.length_append]; simp; omega
  unfold gcF
  rw [if_neg l, if_pos kp, frV_dct h' h.length hh.symm t, tk]
theorem gcF_val {h h' g : MH} {v : MV} (p : pureV v = true) (hh : h'.length = h.length) (cl : clH h.length h' = true) (gl : 0 < g.length) : gcF h v (h' ++ g) = .ok v h' := by
  have tk : (h' ++ g).take h.length = h' := by rw [← hh]; simp
  have kp : keptH h (h' ++ g) = true := by
    unfold keptH
    rw [tk, cl, Bool.or_true]
  have l : ¬ (h' ++ g).length ≤ h.length := by rw [List.length_append]; omega
  unfold gcF
  rw [if_neg l, if_pos kp, fr_pure _ _ _ p, tk]
theorem table_F {h : MH} (hs : isz s = true) (pl : Pl h n) (cl : ∀ h', Onl n h h' → clH h.length h' = true) : ∃ h' t, cF 2 m_law_table [.ref n, .int s] h = .ok (dvG enM t) h' ∧ Onl n h h' ∧ Tab s t := by
  obtain ⟨h', t, e, o, T⟩ := table_i (h := h) hs pl
  refine ⟨h', t, ?_, o, T⟩
  unfold cF
  rw [if_pos (show [MV.ref n, MV.int s].length = 2 from rfl), e, bindR_ok]
  exact gcF_dct o.len (cl h' o) t
theorem onl_HD {h G : MH} {u : As En} (pl : Pl h n) (o : Onl n (HD h u) G) : ∃ h', G = HD h' u ∧ Onl n h h' := by
  obtain ⟨a, b, rfl, _⟩ := o
  refine ⟨h.set n (.lst [.int a, .int b]), ?_, a, b, rfl, pl⟩
  rw [List.set_append_left _ _ pl.lt]
theorem keysI_tab (t : As En) : keysI? (tabG enM t) = some (t.map (·.1)) := by
  unfold keysI? tabG
  rw [List.map_map]
  have : (t.map ((fun x : MV × MV => x.1) ∘ fun p : Int × En => (MV.int p.1, enM p.2))) = (t.map (·.1)).map MV.int := by rw [List.map_map]; rfl
  rw [this, ints?_map]
theorem sort_ref (h : MH) (hl : t.length < 64) : mSortA finV [.ref h.length] (HD h t) = .ok (.lv ((isortI (t.map (·.1))).map .int)) (HD h t) := by
  unfold mSortA
  simp only [asD_newG, keysI_tab, List.length_map, if_pos hl, finV]
theorem sort_tab (h : MH) (hl : t.length < 64) : mSortA finV [dvG enM t] h = .ok (.lv ((isortI (t.map (·.1))).map .int)) h := by
  unfold mSortA
  simp only [asD_dvG, keysI_tab, List.length_map, if_pos hl, finV]
/-- one entry's rights otherwise -/
theorem rights_i {h : MH} (hN : N = h.length) (pl : Pl h n) (U : Sm u) (few : v = 2 → u.length < 64) : ∃ h' u' x5', sIf (mAnd (mB (m2 mEqA (mVar 4) (mC (.int 2)))) (mB (m2 mNeA (mVar 3) mDictV)))
  (sSeq (sSet 5 (m2 mIxA (mN (mSortA finV) (mCons (mVar 3) mNil)) (mN (cF 2 m_law_draw) (mCons (mVar 0) (mCons (mN mLenD (mCons (mVar 3) mNil)) mNil)))))
  (sSetA (mN mkTup (mCons (m2 mIxA (m2 mIxA (mVar 3) (mVar 5)) (mC (.int 0))) (mCons (m2 mIxA (m2 mIxA (mVar 3) (mVar 5)) (mC (.int 1))) (mCons (m2 mIxA (mN mkLv (mCons (mC (.str (Str.ofString "read"))) (mCons (mC (.str (Str.ofString "write"))) mNil))) (mN (cF 2 m_law_draw) (mCons (mVar 0) (mCons (mC (.int 2)) mNil)))) mNil)))) (mVar 3) (mVar 5)))
  sNil (OL n t s N v none none none none none none) (HD h u) = .nx (OL n t s N v x5' none none none none none) (HD h' u') ∧ Onl n h h' ∧ Sm u' := by
  subst hN
  have nd0 : ndk ([] : As En) := List.Pairwise.nil
  have ne := neA_tabG dat_en (asD_newG h enM u) (asD_dvG enM [] (HD h u))
  have ne : mNeA (.ref h.length) (.dv [] []) (HD h u) = .ok (.bl (!deq u [])) (HD h u) := ne
  by_cases c : v = 2 ∧ deq u [] = false
  · have hl := few c.1
    have ul : 0 < u.length := by
      cases u with
      | nil => exact absurd c.2 (by decide)
      | cons _ _ => simp
    have so := sort_ref (t := u) h hl
    have le : mLenD [.ref h.length] (HD h u) = .ok (.int u.length) (HD h u) := by
      unfold mLenD
      simp only [get_new, len_tabG]
    obtain ⟨d, h1, e1, d0, d1, o1⟩ := draw_A (g := [.dct (tabG enM u)]) pl (m := u.length) (by omega) (by omega)
    have kl : (isortI (u.map (·.1))).length = u.length := by rw [(isortI_perm _).length_eq, List.length_map]
    have dn : d.toNat < (isortI (u.map (·.1))).length := by omega
    obtain ⟨x, hx⟩ : ∃ x, (isortI (u.map (·.1)))[d.toNat]? = some x := ⟨_, List.getElem?_eq_getElem dn⟩
    have ix : mIxA (.lv ((isortI (u.map (·.1))).map .int)) (.int d) (HD h1 u) = .ok (.int x) (HD h1 u) := by
      have e0 : isDk (.lv ((isortI (u.map (·.1))).map .int)) (HD h1 u) = false := rfl
      unfold mIxA
      rw [e0]
      simp only [Bool.false_eq_true, if_false]
      unfold mIx
      simp only [asS, atI, L2.ixN, List.length_map, if_pos d0, if_pos (show d < ((isortI (u.map (·.1))).length : Int) by omega), Option.bind_some, List.getElem?_map, hx, Option.map_some]
    have mx : x ∈ u.map (·.1) := (isortI_perm _).mem_iff.mp (List.mem_of_getElem? hx)
    obtain ⟨e, q⟩ : ∃ e, lk u x = some e := by
      cases e : lk u x with
      | none => exact absurd mx (lk_none.mp e)
      | some y => exact ⟨y, rfl⟩
    obtain ⟨d2, h2, e2, f0, f1, o2⟩ := draw_A (g := [.dct (tabG enM u)]) o1.pl (m := 2) (by decide) (by decide)
    obtain ⟨w, ew⟩ := wS_ix f0 f1
    have b := U.bd x e q
    have z2 : 2 ≤ SZ := by decide
    have z3 : 3 ≤ SZ := by decide
    have i1 := ixA_ref u x h1 q
    rw [o1.len] at i1
    have j0 := ix0_en e (HD h1 u)
    have j1 := ix1_en e (HD h1 u)
    refine ⟨h2, pt u x ⟨e.g, e.f, w⟩, some (.int x), ?_, o1.trans o2, U.put b.1 b.2.1 b.2.2.1 b.2.2.2⟩
    have stA := setA_go (rv := mN mkTup (mCons (m2 mIxA (m2 mIxA (mVar 3) (mVar 5)) (mC (.int 0))) (mCons (m2 mIxA (m2 mIxA (mVar 3) (mVar 5)) (mC (.int 1))) (mCons (m2 mIxA (mN mkLv (mCons (mC (.str (Str.ofString "read"))) (mCons (mC (.str (Str.ofString "write"))) mNil))) (mN (cF 2 m_law_draw) (mCons (mVar 0) (mCons (mC (.int 2)) mNil)))) mNil)))) (ro := mVar 3) (ri := mVar 5) (σ := OL n t s h.length v (some (.int x)) none none none none none) (h0 := HD h1 u) (h1 := HD h2 u) (h2 := h2) (l := tabG enM u) (k := .int x) (v := enM ⟨e.g, e.f, w⟩) (kk := .inl x) (N := h.length)
      (by simp only [mN, mCons, mC, m2, mVar, mNil, List.getElem?_cons_succ, List.getElem?_cons_zero, bindR_ok, i1, j0, j1, mkLv, List.length_cons, List.length_nil, if_pos z2, e2, ew, mkTup, if_pos z3]; rfl) rfl rfl (by rw [o2.len, o1.len]) rfl (by rw [len_tabG]; exact Nat.lt_of_le_of_lt U.len (by decide)) (nod_tabG enM U.nd)
    rw [put_tabG] at stA
    have S5 : sSet 5 (m2 mIxA (mN (mSortA finV) (mCons (mVar 3) mNil)) (mN (cF 2 m_law_draw) (mCons (mVar 0) (mCons (mN mLenD (mCons (mVar 3) mNil)) mNil)))) (OL n t s h.length v none none none none none none) (HD h u) = .nx (OL n t s h.length v (some (.int x)) none none none none none) (HD h1 u) := by
      simp only [sSet, m2, mN, mCons, mVar, mNil, List.getElem?_cons_succ, List.getElem?_cons_zero, bindR_ok, so, le, e1, ix, bindS_ok, List.set_cons_succ, List.set_cons_zero]
    rw [c.2] at ne
    refine Eq.trans ?_ ((seq_nx S5).trans stA)
    simp only [sIf, mAnd, mB, m2, mVar, mC, mDictV, finDV, List.map_nil, List.getElem?_cons_succ, List.getElem?_cons_zero, bindR_ok, eqA_int, decide_eq_true c.1, isB, if_true, ne, Bool.not_false, bindS_ok]
  · refine ⟨h, u, none, ?_, .rfl' pl, U⟩
    by_cases hv : v = 2
    · have hd : deq u [] = true := by
        cases e : deq u [] with
        | true => rfl
        | false => exact absurd ⟨hv, e⟩ c
      rw [hd] at ne
      simp only [sIf, mAnd, mB, m2, mVar, mC, mDictV, finDV, List.map_nil, List.getElem?_cons_succ, List.getElem?_cons_zero, bindR_ok, eqA_int, decide_eq_true hv, isB, if_true, ne, Bool.not_true, Bool.false_eq_true, if_false, bindS_ok, sNil]
    · simp only [sIf, mAnd, mB, m2, mVar, mC, List.getElem?_cons_succ, List.getElem?_cons_zero, bindR_ok, eqA_int, decide_eq_false hv, isB, Bool.false_eq_true, if_false, bindS_ok, sNil]
end
end MP

namespace MP
open PySem PySem.Spec PyProof.Rows L2
theorem FI_4 {x : Int} (h : x ∈ FI) : x % 4 = 0 ∧ 0 ≤ x ∧ x ≤ 28 := by
  simp only [FI, List.mem_cons, List.not_mem_nil, or_false] at h
  rcases h with rfl | rfl | rfl | rfl | rfl | rfl | rfl | rfl <;> decide
theorem FI_nd : FI.Nodup := by decide
section
variable {s : Int} {t : As En} {n : Nat}
theorem other_F {h : MH} (hs : isz s = true) (T : Tab s t) (pl : Pl h n) (fl : Flt h) : ∃ h' t', cF 3 m_law_other [.ref n, dvG enM t, .int s] h = .ok (dvG enM t') h' ∧ Onl n h h' ∧ Sm t' := by
  have hz := isz_le hs
  have TS := Tab.sm hs T
  obtain ⟨v, h1, e1, v0, v1, o1⟩ := draw_A (g := [.dct (tabG enM t)]) pl (m := 4) (by decide) (by decide)
  have N1 : h.length = h1.length := o1.len.symm
  -- the great ones
  obtain ⟨σ1, G1, lp1, u1, rfl, rfl, S1, has1, eq1, _⟩ := forGo_list (chk := fun _ => true) (g := gmName 5) (body := sGc [5, 6, 7, 8] lb_law_other_2) (q := fun p : Int × En => MV.int p.1)
    (fun xs σ G => ∃ u, σ = OL n t s h.length v none none none none none none ∧ G = HD h1 u ∧ Sm u ∧ (∀ x, (lk t x).isSome = true → (lk u x).isSome = true) ∧ (2 ≤ v → u = t) ∧ ∀ p ∈ xs, p ∈ t)
    (fun p xs σ G ⟨u, hσ, hG, U, has, eq, sub⟩ => by
      subst hσ hG
      have q : lk t p.1 = some p.2 := lk_of T.nd (sub p List.mem_cons_self)
      have ad := T.ad _ _ q
      have ok := T.ok _ _ q
      have o2 := ok.2.1
      obtain ⟨u', e, U', has', eq'⟩ := part_i (n := n) (s := s) (v := v) (x10 := none) N1 TS U q ⟨by omega, by omega⟩
      exact ⟨rfl, _, _, rfl, _, _, e, u', rfl, rfl, U', fun x hx => has' x (has x hx), fun hv => by rw [eq' hv, eq hv], fun p hp => sub p (List.mem_cons_of_mem _ hp)⟩)
    (fun _ _ _ => rfl) t (OL n t s h.length v none none none none none none) (HD h1 t) ⟨t, rfl, rfl, TS, fun _ h => h, fun _ => rfl, fun _ h => h⟩
  -- the small stretches
  obtain ⟨σ2, G2, lp2, u2, rfl, rfl, S2, _, eq2, _⟩ := forGo_list (chk := fun _ => true) (g := gmName 9) (body := sGc [9] lb_law_other_1) (q := MV.int)
    (fun xs σ G => ∃ u, σ = OL n t s h.length v none none none none none none ∧ G = HD h1 u ∧ Sm u ∧ (∀ x ∈ xs, ∀ k : Int, 0 ≤ k → k < 4 → (lk t (x + k)).isSome = true → (lk u (x + k)).isSome = true) ∧ (2 ≤ v → u = t) ∧ xs.Nodup ∧ ∀ x ∈ xs, x ∈ FI)
    (fun x xs σ G ⟨u, hσ, hG, U, has, eq, nd, sub⟩ => by
      subst hσ hG
      have nd' := List.nodup_cons.mp nd
      obtain ⟨u', e, U', has', eq'⟩ := made_i (n := n) (v := v) N1 hs T U (has x List.mem_cons_self)
      refine ⟨rfl, _, _, rfl, _, _, e, u', rfl, rfl, U', fun y hy k k0 k4 hh => has' _ (fun hin => ?_) (has y (List.mem_cons_of_mem _ hy) k k0 k4 hh), fun hv => by rw [eq' hv, eq hv], nd'.2, fun y hy => sub y (List.mem_cons_of_mem _ hy)⟩
      have a1 := FI_4 (sub x List.mem_cons_self)
      have a2 := FI_4 (sub y (List.mem_cons_of_mem _ hy))
      have : x = y := by omega
      exact nd'.1 (this ▸ hy))
    (fun _ _ _ => rfl) FI (OL n t s h.length v none none none none none none) (HD h1 u1) ⟨u1, rfl, rfl, S1, fun x _ k _ _ hh => has1 _ hh, eq1, FI_nd, fun _ h => h⟩
  obtain ⟨h2, u3, x5, e3, o2, S3⟩ := rights_i (t := t) (s := s) (v := v) N1 o1.pl S2 (fun hv => by rw [eq2 (by omega)]; have := T.len; omega)
  have flat : ∀ {h' : MH}, Onl n h h' → Flt h' := fun o => fl.onl o
  have o12 := o1.trans o2
  obtain ⟨G4, t4, e4, oG, T4⟩ := table_F (h := HD h2 u3) hs (o2.pl.app (g := [.dct (tabG enM u3)])) (fun G o => by
    obtain ⟨h', rfl, o'⟩ := onl_HD o2.pl o
    exact cl_HD (flat (o12.trans o')) u3 _)
  obtain ⟨h4, rfl, o4⟩ := onl_HD o2.pl oG
  have o124 := o12.trans o4
  have z2 : 2 ≤ SZ := by decide
  have z0 : 0 < 1 := by decide
  have mi : ∀ (b : Bool) G, mInt [.bl b] G = .ok (.int (if b then 1 else 0)) G := fun _ _ => rfl
  have ixb : ∀ (b : Bool) G, mIxA (.lv [.ref h.length, dvG enM t4]) (.int (if b then 1 else 0)) G = .ok (if b then dvG enM t4 else .ref h.length) G := fun b G => by cases b <;> rfl
  -- what is handed back
  obtain ⟨b, h5, o5, ret⟩ : ∃ (b : Bool) (h5 : MH), Onl n h4 h5 ∧ sRet (m2 mIxA (mN mkLv (mCons (mVar 3) (mCons (mN (cF 2 m_law_table) (mCons (mVar 0) (mCons (mVar 2) mNil))) mNil))) (mN mInt (mCons (mAndV (m2 mEqA (mVar 4) (mC (.int 3))) (m2 mEqA (mN (cF 2 m_law_draw) (mCons (mVar 0) (mCons (mC (.int 2)) mNil))) (mC (.int 0)))) mNil))) (OL n t s h.length v x5 none none none none none) (HD h2 u3) = .rt (if b then dvG enM t4 else .ref h.length) (HD h5 u3) := by
    by_cases hv : v = 3
    · obtain ⟨d, h5, e5, d0, d1, o5⟩ := draw_A (g := [.dct (tabG enM u3)]) o4.pl (m := 2) (by decide) (by decide)
      refine ⟨decide (d = 0), h5, o5, ?_⟩
      simp only [sRet, m2, mN, mCons, mC, mVar, mNil, List.getElem?_cons_succ, List.getElem?_cons_zero, bindR_ok, e4, mkLv, List.length_cons, List.length_nil, if_pos z2, mAndV, eqA_int, decide_eq_true hv, isTru, if_true, e5, mi, ixb, bindS_ok]
    · refine ⟨false, h4, .rfl' o4.pl, ?_⟩
      simp only [sRet, m2, mN, mCons, mC, mVar, mNil, List.getElem?_cons_succ, List.getElem?_cons_zero, bindR_ok, e4, mkLv, List.length_cons, List.length_nil, if_pos z2, mAndV, eqA_int, decide_eq_false hv, isTru, Bool.false_eq_true, if_false, mi, bindS_ok]
      have := ixb false (HD h4 u3)
      simp only [Bool.false_eq_true, if_false] at this
      rw [this, bindS_ok]
  have oo := o124.trans o5
  have M : m_law_other [.ref n, dvG enM t, .int s] h = .ok (if b then dvG enM t4 else .ref h.length) (HD h5 u3) := by
    refine fnM_rt ?_
    show mb_law_other [some (.ref n), some (dvG enM t), some (.int s), none, none, none, none, none, none, none, none] h = _
    unfold mb_law_other
    refine (seq_nx (σ1 := [some (.ref n), some (dvG enM t), some (.int s), some (.ref h.length), none, none, none, none, none, none, none]) (h1 := HD h t) (by simp [dict1_i])).trans ?_
    refine (seq_nx (σ1 := OL n t s h.length v none none none none none none) (h1 := HD h1 t) (by simp [e1])).trans ?_
    refine (seq_nx (σ1 := OL n t s h.length v none none none none none none) (h1 := HD h1 u1) ?_).trans ?_
    · rw [← lp1]
      have it : itD (dvG enM t) (HD h1 t) = .ok (t.map fun p => MV.int p.1, fun _ => true) (HD h1 t) := rfl
      unfold sFor
      simp only [iD, mVar, List.getElem?_cons_succ, List.getElem?_cons_zero, bindR_ok, it, bindS_ok]
    refine (seq_nx (σ1 := OL n t s h.length v none none none none none none) (h1 := HD h1 u2) ?_).trans ?_
    · rw [← lp2]
      have ok : (inB 0 && inB 32 && decide ((0 : Int) < 4) && decide ((4 : Int) < 1000000)) = true := rfl
      have rs : rgM 0 4 (Builtin.Range.rangeSize 0 32 4).toNat = FI.map .int := rfl
      have it : ∀ h, itR3 [.int 0, .int 32, .int 4] h = .ok (FI.map .int, fun _ => true) h := fun h => by
        unfold itR3
        simp only [ok, if_true, rs]
      simp only [sFor, mCons, mC, mNil, bindR_ok, it, bindS_ok]
    refine (seq_nx e3).trans ?_
    exact ret
  refine ⟨h5, if b then t4 else u3, ?_, oo, ?_⟩
  · unfold cF
    rw [if_pos (show [MV.ref n, dvG enM t, MV.int s].length = 3 from rfl), M, bindR_ok]
    cases b with
    | true => exact gcF_val (g := [.dct (tabG enM u3)]) (pure_dvG dat_en t4) oo.len ((flat oo).cl _) (Nat.lt_add_one 0)
    | false => exact gcF_dct oo.len ((flat oo).cl _) u3
  · cases b with
    | true => exact Tab.sm hs T4
    | false => exact S3
end
end MP

namespace MP
open PySem PySem.Spec PyProof.Rows L2
def okO : Option MV → Bool
  | none => true
  | some v => pureV v
/-! repr of a table -/
def repD (t : As En) : List (PyData × PyData) := t.map fun p => (.int p.1, enD p.2)
theorem log_lt {i : Int} (h : i.natAbs < 1000) : decide (i.natAbs.log2 < 1920) = true := decide_eq_true (Nat.lt_of_le_of_lt (Nat.log2_le_self _) (by omega))
theorem intB_4 {i : Int} (h : i.natAbs < 1000) : intB i = 4 := by unfold intB; rw [if_pos h]
theorem bnd_g (g : Bool) : bnd (.str (gS g)) ≤ 30 := by cases g <;> (rw [bnd]; decide +kernel)
theorem bnd_w (w : Bool) : bnd (.str (wS w)) ≤ 30 := by cases w <;> (rw [bnd]; decide +kernel)
theorem kvD_tab (h : MH) : ∀ t : As En, kvD h (tabG enM t) = some (repD t)
  | [] => rfl
  | p :: t => by
    have e : noL (enD p.2) = true := rfl
    have d : toD h 12 (enM p.2) = some (enD p.2) := dat_en.to _ _
    show kvD h ((.int p.1, enM p.2) :: tabG enM t) = _
    unfold kvD
    simp only [mkey, d, e, if_true, kvD_tab h t]
    rfl
theorem rep_ok : ∀ {t : As En}, (∀ p ∈ t, p.1.natAbs < 1000 ∧ p.2.f.natAbs < 1000) → PyData.showableKv (repD t) = true ∧ okKv (repD t) = true ∧ PyData.depthKv (repD t) ≤ 1 ∧ bndKv (repD t) ≤ 100 * t.length
  | [], _ => by simp [repD, PyData.showableKv, okKv, PyData.depthKv, bndKv]
  | p :: t, h => by
    obtain ⟨a, b, c, d⟩ := rep_ok fun q hq => h q (List.mem_cons_of_mem _ hq)
    obtain ⟨h1, h2⟩ := h p List.mem_cons_self
    have e : repD (p :: t) = (.int p.1, enD p.2) :: repD t := rfl
    rw [e]
    refine ⟨?_, ?_, ?_, ?_⟩
    · rw [PyData.showableKv, a]
      simp only [enD, PyData.showable, PyData.showableAll, log_lt h1, log_lt h2, Bool.and_self]
    · rw [okKv, b]; rfl
    · rw [PyData.depthKv]
      simp only [enD, PyData.depth, PyData.depthAll]
      omega
    · rw [bndKv]
      have g := bnd_g p.2.g
      have w := bnd_w p.2.w
      simp only [enD, bnd, bnds, intB_4 h1, intB_4 h2, List.length_cons] at g w ⊢
      omega
theorem repr_tab {t : As En} (T : Sm t) (h : MH) : mReprA [dvG enM t] h = .ok (.str (PyData.dict (repD t)).shown) h := by
  have e1 : mRepr [dvG enM t] h = .bad := by
    unfold mRepr
    simp only [toD_asD (asD_dvG enM t h)]
  obtain ⟨a, b, c, d⟩ := rep_ok (t := t) fun p hp => by
    have := T.bd _ _ (lk_of T.nd hp)
    omega
  have l := T.len
  have ok : okRD (repD t) = true := okRD_iff.mpr ⟨a, b, by rw [PyData.depth]; omega, by omega⟩
  unfold mReprA
  rw [e1]
  show mReprK [dvG enM t] h = _
  unfold mReprK
  simp only [asD_dvG, kvD_tab, ok, if_true]
theorem neA_str (x : Str) (h : MH) : mNeA (.str x) (.str x) h = .ok (.bl false) h := by
  have e1 : toD h 12 (.str x) = some (.str x) := rfl
  have e3 : eqSt true (.str x) (.str x) h = .ok (.bl false) h := by
    unfold eqSt
    simp
  unfold mNeA mNe eqMV
  simp only [e1]
  split
  · simp [PyData.eqv]
  · rw [e3]; rfl
theorem neB_str (x : Str) (h : MH) : mNeB (.str x) (.str x) h = .ok (.bl false) h := by
  unfold mNeB
  rw [neA_str]; rfl
/-! tuples of a dict and a list -/
theorem eqPr_d {a b : MV} {h : MH} {c : As Cv} (nd : ndk c) (ea : asD a h = some (tabG cvM c)) (eb : asD b h = some (tabG cvM c)) : eqPrM h a b = some true := by
  have hit := hits_tabG dat_cv h c c
  have all : (c.all fun p => decide (lk c p.1 = some p.2)) = true := List.all_eq_true.mpr fun p hp => decide_eq_true (lk_of nd hp)
  rw [all] at hit
  unfold eqPrM
  simp only [toD_asD ea, ea, eb, if_true, hit]
theorem eqPr_l {a b : MV} {h : MH} {l : List Int} (ea : toD h 12 a = some (.list (l.map .int))) (eb : toD h 12 b = some (.list (l.map .int))) : eqPrM h a b = some true := by
  unfold eqPrM
  simp only [ea, eb, shaped_ints, Bool.and_self, if_true, PyData.eqv, eqv_ints, decide_true]
theorem bad_tup {a1 a2 b : MV} {h : MH} {l : List (MV × MV)} (ea : asD a1 h = some l) (f : toD h 11 a1 = none) : toD h 12 (.tup [a1, a2]) = none := by
  show Option.map PyData.tuple (mapO (toD h 11) [a1, a2]) = none
  simp only [mapO, f]; rfl
theorem toD11 {a : MV} {h : MH} {l : List (MV × MV)} (e : asD a h = some l) : toD h 11 a = none := by
  cases a with
  | dv ks ws => rfl
  | ref n =>
    unfold asD at e
    simp only at e
    show (match h[n]? with | some (.lst l) => _ | _ => none) = none
    cases eo : h[n]? with
    | none => rfl
    | some o =>
      cases o with
      | lst l' => simp only [eo] at e; cases e
      | _ => rfl
  | _ => cases e
theorem tupT (neg : Bool) {a1 a2 b1 b2 : MV} {h : MH} (e1 : eqPrM h a1 b1 = some true) (e2 : eqPrM h a2 b2 = some true) : eqTM neg (.tup [a1, a2]) (.tup [b1, b2]) h = .ok (.bl (!neg)) h := by
  have e : eqPrsM h [a1, a2] [b1, b2] = some [true, true] := by
    simp only [eqPrsM, e1, e2]
  unfold eqTM
  simp only [e]
  cases neg <;> rfl
theorem neB_tup {a1 a2 b1 b2 : MV} {h : MH} {l : List (MV × MV)} (ea : asD a1 h = some l) (e1 : eqPrM h a1 b1 = some true) (e2 : eqPrM h a2 b2 = some true) : mNeB (.tup [a1, a2]) (.tup [b1, b2]) h = .ok (.bl false) h := by
  have h1 : mNe (.tup [a1, a2]) (.tup [b1, b2]) h = .bad := by
    unfold mNe eqMV
    rw [bad_tup (b := a1) ea (toD11 ea)]
  have h2 := tupT true e1 e2
  unfold mNeB mNeA
  rw [h1]
  exact h2
theorem eqB_tup {a1 a2 b1 b2 : MV} {h : MH} {l : List (MV × MV)} (ea : asD a1 h = some l) (e1 : eqPrM h a1 b1 = some true) (e2 : eqPrM h a2 b2 = some true) : mEqB (.tup [a1, a2]) (.tup [b1, b2]) h = .ok (.bl true) h := by
  have h1 : mEq (.tup [a1, a2]) (.tup [b1, b2]) h = .bad := by
    unfold mEq eqMV
    rw [bad_tup (b := a1) ea (toD11 ea)]
  have h2 := tupT false e1 e2
  unfold mEqB mEqA
  rw [h1]
  exact h2
theorem zip_tab {α : Type} (enc : α → MV) (t : As α) : ((tabG enc t).map (·.1)).zip ((tabG enc t).map (·.2)) = tabG enc t := by
  induction t with
  | nil => rfl
  | cons p t ih =>
    show (MV.int p.1, enc p.2) :: ((tabG enc t).map (·.1)).zip ((tabG enc t).map (·.2)) = _
    rw [ih]; rfl
theorem covered_R (h : MH) {t : As En} (hl : t.length ≤ 1000) : cR 1 m_covered [dvG enM t] h = .ok (.ref h.length) (HC h (cov t)) := by
  have p2 : pureVs ((tabG cvM (cov t)).map (·.2)) = true := by
    unfold tabG
    rw [List.map_map]
    exact pures_map (f := fun p : Int × Cv => cvM p.2) (fun p => dat_cv.pu p.2) _
  unfold cR
  rw [if_pos (show [dvG enM t].length = 1 from rfl), covered_i h hl, bindR_ok]
  unfold gcR
  rw [kept_app]
  simp only [if_true, Nat.lt_irrefl, if_false, get_new, frs_pure _ _ _ p2, zip_tab, take_app]
theorem clX {n : Nat} {x : Option MV} {l : Lo} (hx : okO x = true) : clL n (x :: l) = clL n l := by
  cases x with
  | none => rw [clL]
  | some v => rw [clL, cl_pure n hx, Bool.true_and]
def dueM (t : As En) : MV := .tup [dvG cvM (cov t), .lv ((fitL t).map .int)]
abbrev RL (t : As En) (x3 x4 : Option MV) : Lo := [some (dvG enM t), some (.str (PyData.dict (repD t)).shown), some (dueM t), x3, x4, none]
theorem told_i {t : As En} (T : Sm t) (h : MH) (x3 : Option MV) : sGc [3, 4] lb_law_right_0 (RL t x3 none) h = .nx (RL t none none) h := by
  have l1 : t.length ≤ 1000 := Nat.le_trans T.len (by decide)
  have e1 := covered_R h l1
  have e2 := can_R (HC h (cov t)) t
  generalize hG : HC h (cov t) ++ [MO.lst ((fitL t).map .int)] = G at *
  have lC : (HC h (cov t)).length = h.length + 1 := by simp
  have g0 : G[h.length]? = some (.dct (tabG cvM (cov t))) := by rw [← hG]; simp [HC]
  have g1 : G[(HC h (cov t)).length]? = some (.lst ((fitL t).map .int)) := by rw [← hG]; simp
  have a0 : asD (.ref h.length) G = some (tabG cvM (cov t)) := by unfold asD; simp only [g0]
  have d1 : toD G 12 (.ref (HC h (cov t)).length) = some (.list ((fitL t).map .int)) := by
    have q : mapO (toD G 11) ((fitL t).map MV.int) = some ((fitL t).map .int) := mapO_map fun _ _ => rfl
    rw [toD]; simp only [g1, q]; rfl
  have ne := neB_tup (a2 := .ref (HC h (cov t)).length) a0 (eqPr_d (b := dvG cvM (cov t)) (cov_nd t) a0 (asD_dvG cvM (cov t) G)) (eqPr_l (b := .lv ((fitL t).map .int)) d1 (toD_ints (fitL t) G 10))
  have ne : mNeB (.tup [.ref h.length, .ref (HC h (cov t)).length]) (dueM t) G = .ok (.bl false) G := ne
  have rp := repr_tab T G
  have nr := neB_str (PyData.dict (repD t)).shown G
  have z2 : 2 ≤ SZ := by decide
  have i0 : ∀ G, mIxA (.tup [.ref h.length, .ref (HC h (cov t)).length]) (.int 0) G = .ok (.ref h.length) G := fun _ => rfl
  have i1 : ∀ G, mIxA (.tup [.ref h.length, .ref (HC h (cov t)).length]) (.int 1) G = .ok (.ref (HC h (cov t)).length) G := fun _ => rfl
  have isd : isDct (.ref h.length) G = true := by unfold isDct; simp only [g0]
  have cl : mDClear (.ref h.length) [] G = .ok .non (G.set h.length (.dct [])) := by
    unfold mDClear
    simp only [g0, setH]
  have eG : G.set h.length (.dct []) = h ++ [.dct [], .lst ((fitL t).map .int)] := by
    rw [← hG]; simp [HC]
  rw [eG] at cl
  have g2 : (h ++ [MO.dct [], .lst ((fitL t).map .int)])[(HC h (cov t)).length]? = some (.lst ((fitL t).map .int)) := by simp
  have al : asL (.ref (HC h (cov t)).length) (h ++ [MO.dct [], .lst ((fitL t).map .int)]) = some ((fitL t).map .int) := by unfold asL; simp only [g2]
  have lf : ((fitL t).map MV.int).length < SZ := by
    rw [List.length_map]
    exact Nat.lt_of_le_of_lt (List.length_filter_le _ _) (by decide)
  have ap : mAppend (.ref (HC h (cov t)).length) [.non] (h ++ [MO.dct [], .lst ((fitL t).map .int)]) = .ok .non (h ++ [MO.dct [], .lst ((fitL t).map .int ++ [.non])]) := by
    unfold mAppend
    simp only [g2, if_pos lf, setH]
    rw [lC]
    simp
  have B : lb_law_right_0 (RL t x3 none) h = .nx (RL t x3 (some (.tup [.ref h.length, .ref (HC h (cov t)).length]))) (h ++ [.dct [], .lst ((fitL t).map .int ++ [.non])]) := by
    unfold lb_law_right_0
    refine (seq_nx (σ1 := RL t x3 (some (.tup [.ref h.length, .ref (HC h (cov t)).length]))) (h1 := G) ?_).trans ?_
    · simp only [sSet, mN, mCons, mVar, mNil, List.getElem?_cons_succ, List.getElem?_cons_zero, bindR_ok, e1, e2, mkTup, List.length_cons, List.length_nil, if_pos z2, bindS_ok, List.set_cons_succ, List.set_cons_zero]
    refine (seq_nx (σ1 := RL t x3 (some (.tup [.ref h.length, .ref (HC h (cov t)).length]))) (h1 := G) ?_).trans ?_
    · simp only [sIf, mOr, mB, m2, mN, mCons, mVar, mNil, List.getElem?_cons_succ, List.getElem?_cons_zero, bindR_ok, ne, rp, nr, isB, bindS_ok, Bool.false_eq_true, if_false, sNil]
    refine (seq_nx (σ1 := RL t x3 (some (.tup [.ref h.length, .ref (HC h (cov t)).length]))) (h1 := h ++ [.dct [], .lst ((fitL t).map .int)]) ?_).trans ?_
    · simp only [sExpr, mMethD, m2, mVar, mC, mNil, List.getElem?_cons_succ, List.getElem?_cons_zero, bindR_ok, i0, isd, if_true, cl, bindS_ok]
    · simp only [sExpr, mMeth, m2, mVar, mC, mCons, mNil, List.getElem?_cons_succ, List.getElem?_cons_zero, bindR_ok, i1, al, ap, bindS_ok]
  have pd : pureV (dueM t) = true := by
    unfold dueM
    rw [pureV, pureVs, pureVs, pureVs, pure_dvG dat_cv, pureV, pure_ints]; rfl
  exact sGc_app (ks := [3, 4]) (h := h) B (by
    show clL h.length [some (dvG enM t), some (.str (PyData.dict (repD t)).shown), some (dueM t), none, none, none] = true
    rw [clX (x := some (dvG enM t)) (pure_dvG dat_en t), clX (x := some (.str _)) rfl, clX (x := some (dueM t)) pd, clX rfl, clX rfl, clX rfl, clL])
theorem right_i {t : As En} (T : Sm t) (h : MH) : m_law_right [dvG enM t] h = .ok (.bl true) h := by
  have l1 : t.length ≤ 1000 := Nat.le_trans T.len (by decide)
  have e1 := repr_tab T h
  have e2 := law_covered_F T.nd (Nat.le_trans T.len (by decide)) h
  have z2 : 2 ≤ SZ := by decide
  have ok : (inB 0 && inB 32 && decide ((0 : Int) < 4) && decide ((4 : Int) < 1000000)) = true := rfl
  have rs : rgM 0 4 (Builtin.Range.rangeSize 0 32 4).toNat = FI.map .int := rfl
  have it : itR3 [.int 0, .int 32, .int 4] h = .ok (FI.map .int, fun _ => true) h := by
    unfold itR3
    simp only [ok, if_true, rs]
  have len : (FI.map MV.int).length ≤ SZ := by decide
  have lc : lcGo (fun _ => true) (.nm 5) lt_law_right_0 le_law_right_0 (FI.map .int) (clrL [5] [some (dvG enM t), some (.str (PyData.dict (repD t)).shown), none, none, none, none]) h = .ok ((fitL t).map .int) h :=
    lcGo_map rfl fun a ha => ⟨_, rfl, by
      have := law_fits_F t a h
      simp [lt_law_right_0, clrL, this], fun _ => by simp [le_law_right_0, clrL]⟩
  have t0 := told_i T h (some (.int 0))
  have t1 := told_i T h (some (.int 1))
  have f1 := covered_F h l1
  have f2 := can_F h t
  have eq := eqB_tup (h := h) (a2 := .lv ((fitL t).map .int)) (asD_dvG cvM (cov t) h) (eqPr_d (b := dvG cvM (cov t)) (cov_nd t) (asD_dvG cvM (cov t) h) (asD_dvG cvM (cov t) h)) (eqPr_l (b := .lv ((fitL t).map .int)) (toD_ints (fitL t) h 10) (toD_ints (fitL t) h 10))
  have eq : mEqB (.tup [dvG cvM (cov t), .lv ((fitL t).map .int)]) (dueM t) h = .ok (.bl true) h := eq
  refine fnM_rt ?_
  show mb_law_right [some (dvG enM t), none, none, none, none, none] h = _
  unfold mb_law_right
  refine (seq_nx (σ1 := [some (dvG enM t), some (.str (PyData.dict (repD t)).shown), none, none, none, none]) (h1 := h) ?_).trans ?_
  · simp only [sSet, mN, mCons, mVar, mNil, List.getElem?_cons_zero, bindR_ok, e1, bindS_ok, List.set_cons_succ, List.set_cons_zero]
  refine (seq_nx (σ1 := RL t none none) (h1 := h) ?_).trans ?_
  · simp only [sSet, mN, mCons, mC, mVar, mNil, mLc, List.getElem?_cons_succ, List.getElem?_cons_zero, bindR_ok, e2, it, if_pos len, lc, finV, mkTup, List.length_cons, List.length_nil, if_pos z2, bindS_ok, List.set_cons_succ, List.set_cons_zero]
    rfl
  refine (seq_nx (σ1 := RL t none none) (h1 := h) ?_).trans ?_
  · refine (sFor_rg1 (j := 2) (h1 := h) rfl rfl).trans ?_
    have r : rgM 0 1 2 = [.int 0, .int 1] := rfl
    show forGo (fun _ => true) (gmName 3) (sGc [3, 4] lb_law_right_0) (rgM 0 1 2) _ _ = _
    rw [r]
    simp only [forGo, if_true, gmName, List.set_cons_succ, List.set_cons_zero, t0, t1]
  · have q1 : g_kb_covered_0 [dvG enM t] = [dvG enM t] := rfl
    have q2 : g_kb_can_be_great_0 [dvG enM t] = [dvG enM t] := rfl
    simp only [sRet, m2, mN, mCons, mVar, mNil, List.getElem?_cons_succ, List.getElem?_cons_zero, bindR_ok, q1, q2, f1, f2, mkTup, List.length_cons, List.length_nil, if_pos z2, eq, bindS_ok]
theorem right_F {t : As En} (T : Sm t) (h : MH) : cF 1 m_law_right [dvG enM t] h = .ok (.bl true) h := cF_val0 rfl (right_i T h)
end MP

namespace MP
open PySem PySem.Spec PyProof.Rows L2
theorem deq_imp {t u : As Cv} (nt : ndk t) (nu : ndk u) (h : deq t u = true) : deq u t = true := by
  unfold deq at h ⊢
  rw [Bool.and_eq_true, decide_eq_true_eq, List.all_eq_true] at h
  rw [Bool.and_eq_true, decide_eq_true_eq, List.all_eq_true]
  obtain ⟨hl, ha⟩ := h
  refine ⟨hl.symm, fun p hp => decide_eq_true ?_⟩
  have q : lk u p.1 = some p.2 := lk_of nu hp
  cases e : lk t p.1 with
  | none =>
    exfalso
    have no := lk_none.mp e
    have key : ∀ {l D : List Int}, l.Nodup → (∀ x ∈ l, x ∈ D) → l.length ≤ D.length := fun {l D} nd h => nodup_le nd h
    have := key (l := p.1 :: t.map (·.1)) (D := u.map (·.1)) (List.nodup_cons.mpr ⟨no, show (t.map (·.1)).Nodup from nt⟩) fun x hx => by
      rcases List.mem_cons.mp hx with rfl | hx
      · exact List.mem_map.mpr ⟨p, hp, rfl⟩
      · obtain ⟨y, hy, rfl⟩ := List.mem_map.mp hx
        have := of_decide_eq_true (ha y hy)
        exact List.mem_map.mpr ⟨_, lk_mem this, rfl⟩
    simp at this
    omega
  | some y =>
    have := of_decide_eq_true (ha (p.1, y) (lk_mem e))
    rw [q] at this
    rw [Option.some.inj this]
theorem deq_comm {t u : As Cv} (nt : ndk t) (nu : ndk u) : deq u t = deq t u := by
  cases e : deq t u with
  | true => exact deq_imp nt nu e
  | false =>
    cases e2 : deq u t with
    | false => rfl
    | true => rw [deq_imp nu nt e2] at e; cases e
def getE (t : As En) (x : Int) : En := (lk t x).getD ⟨false, 0, false⟩
def trn (t : As En) : As En := (isortI (t.map (·.1))).reverse.map fun x => (x, getE t x)
section
variable {ns : List Int} {k s : Int} {t : As En}
theorem trn_keys (t : As En) : (trn t).map (·.1) = (isortI (t.map (·.1))).reverse := by
  unfold trn
  rw [List.map_map]
  have : ((fun p : Int × En => p.1) ∘ fun x => (x, getE t x)) = id := by funext x; rfl
  rw [this, List.map_id]
theorem trn_nd (nd : ndk t) : ndk (trn t) := by
  unfold ndk
  rw [trn_keys]
  exact (List.reverse_perm _).nodup_iff.mpr ((isortI_perm _).nodup_iff.mpr nd)
theorem trn_mem {x : Int} : x ∈ (isortI (t.map (·.1))).reverse ↔ x ∈ t.map (·.1) := by rw [List.mem_reverse, (isortI_perm _).mem_iff]
theorem trn_lk (nd : ndk t) (x : Int) : lk (trn t) x = lk t x := by
  cases e : lk t x with
  | none =>
    refine lk_none.mpr ?_
    rw [trn_keys, trn_mem]
    exact lk_none.mp e
  | some y =>
    refine lk_of (trn_nd nd) ?_
    have g : getE t x = y := by unfold getE; rw [e]; rfl
    rw [← g]
    exact List.mem_map.mpr ⟨x, trn_mem.mpr (List.mem_map.mpr ⟨_, lk_mem e, rfl⟩), rfl⟩
theorem trn_tab (T : Tab s t) : Tab s (trn t) := by
  have l := trn_lk T.nd
  refine ⟨trn_nd T.nd, fun a e h => T.ad a e (by rw [← l]; exact h), fun a e h => T.ok a e (by rw [← l]; exact h), fun a e h g => ?_⟩
  have := T.al a e (by rw [← l]; exact h) g
  rw [l, l, l]; exact this
theorem trn_fit (nd : ndk t) : fitL (trn t) = fitL t := by
  unfold fitL
  refine List.filter_congr fun x _ => ?_
  unfold fitB
  rw [trn_lk nd, trn_lk nd, trn_lk nd, trn_lk nd]
theorem trn_cv (nd : ndk t) (x : Int) : cvF t x = cvF (trn t) x := by
  unfold cvF
  rw [trn_lk nd, trn_lk nd]
theorem rev_ints (l : List Int) (h : MH) : mRev finV (.lv (l.map .int)) h = .ok (.lv (l.reverse.map .int)) h := by
  show finV _ h = _
  rw [List.map_reverse]; rfl
theorem trn_pta (nd : ndk t) : pta [] (trn t) = trn t := by
  have := pta_app (t := ([] : As En)) (u := trn t) (by rw [List.nil_append]; exact trn_nd nd)
  rw [this, List.nil_append]
theorem dictP_i (nd : ndk t) (h : MH) : mDictP finDV [.lv ((tabG enM (trn t)).map fun p => .tup [p.1, p.2])] h = .ok (dvG enM (trn t)) h := by
  unfold mDictP
  simp only [asL_lv, kvs?_map _ (keysOk_tabG enM (trn t))]
  have e : putAll [] (tabG enM (trn t)) = tabG enM (trn t) := by
    have := putAll_tabG enM [] (trn t)
    rw [trn_pta nd] at this
    exact this
  rw [e]
  unfold finDV
  rw [fin_dvG]
theorem repr_two (d : Bool) (h : MH) : mRepr [.lv [.bl d, .bl d]] h = .ok (.str (PyData.list [.bool d, .bool d]).shown) h := by
  have e : toD h 12 (.lv [.bl d, .bl d]) = some (.list [.bool d, .bool d]) := rfl
  have ok : okR (.list [.bool d, .bool d]) = true := by cases d <;> rfl
  unfold mRepr
  simp only [e, ok, if_true]
theorem cell_i (hn : ns.length ≤ 63) (hk : 0 ≤ k) (hk2 : k < 1000) : sGc [1, 2, 3, 4, 5, 6, 7, 8] lb_law_0 [some (.fz (ns.map .int)), some (.int k), none, none, none, none, none, none, none, none] [] = .nx [some (.fz (ns.map .int)), none, none, none, none, none, none, none, none, none] [] := by
  obtain ⟨a, b, e1⟩ := pool_i ns k hk hk2 hn []
  have e1 := cR_new (n := 2) rfl e1 (by simp)
  have e1 : cR 2 m_law_pool [.fz (ns.map .int), .int k] [] = .ok (.ref 0) [.lst [.int a, .int b]] := e1
  have p0 : Pl [.lst [.int a, .int b]] 0 := ⟨a, b, rfl⟩
  have fl0 : Flt [.lst [.int a, .int b]] := fun o ho => by
    rcases List.mem_cons.mp ho with rfl | ho
    · exact ⟨[a, b], rfl⟩
    · exact absurd ho (by simp)
  obtain ⟨d, h2, e2, d0, d1, o2⟩ := draw_F p0 (m := 8) (by decide) (by decide)
  have hs : isz (8 * (1 + d)) = true := by simp only [isz, Bool.and_eq_true, decide_eq_true_eq]; omega
  have m1' : ∀ G, mMul finV (.int 8) (.int (1 + d)) G = .ok (.int (8 * (1 + d))) G := fun G => mul_int _ _ _ _ (.inl ⟨by decide, by decide⟩)
  generalize 8 * (1 + d) = s at hs m1'
  obtain ⟨h3, t, e3, o3, T⟩ := table_F hs o2.pl (fun G o => (fl0.onl (o2.trans o)).cl _)
  have o23 := o2.trans o3
  obtain ⟨h4, u, e4, o4, U⟩ := other_F hs T o3.pl (fl0.onl o23)
  have TS := Tab.sm hs T
  have r1 := right_F TS h4
  have r2 := right_F U h4
  have lt1 : t.length ≤ 1000 := Nat.le_trans T.len (by decide)
  have lu1 : u.length ≤ 1000 := Nat.le_trans U.len (by decide)
  have c1 := law_covered_F TS.nd (Nat.le_trans T.len (by decide)) h4
  have c2 := law_covered_F U.nd (Nat.le_trans U.len (by decide)) h4
  have ce := eqA_tabG dat_cv (asD_dvG cvM (cov t) h4) (asD_dvG cvM (cov u) h4)
  have s1 := same_F h4 lt1 lu1
  have s2 := same_F h4 lu1 lt1
  rw [deq_comm (cov_nd t) (cov_nd u)] at s2
  generalize deq (cov t) (cov u) = D at ce s1 s2
  have w1 := repr_two D h4
  have w2 := neA_str (PyData.list [.bool D, .bool D]).shown h4
  have w3 : mMul finV (.lv [.bl D]) (.int 2) h4 = .ok (.lv [.bl D, .bl D]) h4 := by
    have al : asL (.lv [.bl D]) h4 = some [.bl D] := rfl
    have ok : (inB 2 && decide ([MV.bl D].length * (2 : Int).toNat ≤ SZ)) = true := by
      have : decide ([MV.bl D].length * (2 : Int).toNat ≤ SZ) = true := decide_eq_true (show 2 ≤ SZ by decide)
      rw [this]; rfl
    unfold mMul
    simp only [al, ok, if_true]
    rfl
  have so := sort_tab (t := t) h4 (Nat.lt_of_le_of_lt T.len (by decide))
  have rv := rev_ints (isortI (t.map (·.1))) h4
  have z0 : 0 ≤ SZ := by decide
  have z1 : 1 ≤ SZ := by decide
  have z2 : 2 ≤ SZ := by decide
  have kl : (((isortI (t.map (·.1))).reverse).map MV.int).length ≤ SZ := by
    rw [List.length_map, List.length_reverse, (isortI_perm _).length_eq, List.length_map]
    exact Nat.le_trans T.len (by decide)
  have lc : lcGo (fun _ => true) (.nm 9) mYes le_law_0 (((isortI (t.map (·.1))).reverse).map .int) (clrL [9] [some (.fz (ns.map .int)), some (.int k), some (.ref 0), some (.int s), some (dvG enM t), some (dvG enM u), some (.bl D), some (.lv [.bl D, .bl D]), none, none]) h4 = .ok ((tabG enM (trn t)).map fun p => .tup [p.1, p.2]) h4 := by
    have e : ((tabG enM (trn t)).map fun p => MV.tup [p.1, p.2]) = ((isortI (t.map (·.1))).reverse).map fun x => .tup [.int x, enM (getE t x)] := by
      unfold tabG trn
      rw [List.map_map, List.map_map]; rfl
    rw [e]
    exact lcGo_all rfl fun x hx => ⟨_, rfl, by
      obtain ⟨y, q⟩ : ∃ y, lk t x = some y := by
        cases e : lk t x with
        | none => exact absurd (trn_mem.mp hx) (lk_none.mp e)
        | some y => exact ⟨y, rfl⟩
      have g : getE t x = y := by unfold getE; rw [q]; rfl
      have i1 := ixA_dv t x h4 q
      simp [le_law_0, clrL, i1, z2, g]⟩
  have dp := dictP_i T.nd h4
  have s3 := same_F h4 lt1 (Nat.le_trans (trn_tab T).len (by decide))
  rw [cov_same T (trn_tab T) (trn_cv T.nd)] at s3
  have f1 := can_F h4 t
  have f2 := can_F h4 (trn t)
  rw [trn_fit T.nd] at f2
  have f3 := neA_ints (fitL t) h4
  have isn : mIsNot (.bl true) (.bl true) h4 = .ok (.bl false) h4 := rfl
  have q1 : g_kb_same_said_10 [dvG enM t, dvG enM u] = [dvG enM u, dvG enM t] := rfl
  have B : lb_law_0 [some (.fz (ns.map .int)), some (.int k), none, none, none, none, none, none, none, none] [] = .nx [some (.fz (ns.map .int)), some (.int k), some (.ref 0), some (.int s), some (dvG enM t), some (dvG enM u), some (.bl D), some (.lv [.bl D, .bl D]), some (dvG enM (trn t)), none] ([] ++ h4) := by
    unfold lb_law_0
    refine (seq_nx (σ1 := [some (.fz (ns.map .int)), some (.int k), some (.ref 0), none, none, none, none, none, none, none]) (h1 := [.lst [.int a, .int b]]) (by simp [e1])).trans ?_
    refine (seq_nx (σ1 := [some (.fz (ns.map .int)), some (.int k), some (.ref 0), some (.int s), none, none, none, none, none, none]) (h1 := h2) (by simp [e2, m1'])).trans ?_
    refine (seq_nx (σ1 := [some (.fz (ns.map .int)), some (.int k), some (.ref 0), some (.int s), some (dvG enM t), none, none, none, none, none]) (h1 := h3) (by simp [e3])).trans ?_
    refine (seq_nx (σ1 := [some (.fz (ns.map .int)), some (.int k), some (.ref 0), some (.int s), some (dvG enM t), some (dvG enM u), none, none, none, none]) (h1 := h4) (by simp [e4])).trans ?_
    refine (seq_nx (σ1 := [some (.fz (ns.map .int)), some (.int k), some (.ref 0), some (.int s), some (dvG enM t), some (dvG enM u), none, none, none, none]) (h1 := h4) ?_).trans ?_
    · simp only [sIf, mOr, mNot, mTru, mN, mCons, mVar, mNil, List.getElem?_cons_succ, List.getElem?_cons_zero, bindR_ok, r1, r2, isTru, Bool.not_true, bindS_ok, Bool.false_eq_true, if_false, sNil]
    refine (seq_nx (σ1 := [some (.fz (ns.map .int)), some (.int k), some (.ref 0), some (.int s), some (dvG enM t), some (dvG enM u), some (.bl D), none, none, none]) (h1 := h4) ?_).trans ?_
    · simp only [sSet, m2, mN, mCons, mVar, mNil, List.getElem?_cons_succ, List.getElem?_cons_zero, bindR_ok, c1, c2, ce, bindS_ok, List.set_cons_succ, List.set_cons_zero]
    refine (seq_nx (σ1 := [some (.fz (ns.map .int)), some (.int k), some (.ref 0), some (.int s), some (dvG enM t), some (dvG enM u), some (.bl D), some (.lv [.bl D, .bl D]), none, none]) (h1 := h4) ?_).trans ?_
    · simp only [sSet, m2, mN, mCons, mVar, mNil, List.getElem?_cons_succ, List.getElem?_cons_zero, bindR_ok, s1, q1, s2, mkLv, List.length_cons, List.length_nil, if_pos z2, bindS_ok, List.set_cons_succ, List.set_cons_zero]
    refine (seq_nx (σ1 := [some (.fz (ns.map .int)), some (.int k), some (.ref 0), some (.int s), some (dvG enM t), some (dvG enM u), some (.bl D), some (.lv [.bl D, .bl D]), none, none]) (h1 := h4) ?_).trans ?_
    · simp only [sIf, mB, m2, mN, mCons, mC, mVar, mNil, List.getElem?_cons_succ, List.getElem?_cons_zero, bindR_ok, w1, mkLv, List.length_cons, List.length_nil, if_pos z1, w3, w2, isB, bindS_ok, Bool.false_eq_true, if_false, sNil]
    refine (seq_nx (σ1 := [some (.fz (ns.map .int)), some (.int k), some (.ref 0), some (.int s), some (dvG enM t), some (dvG enM u), some (.bl D), some (.lv [.bl D, .bl D]), some (dvG enM (trn t)), none]) (h1 := h4) ?_).trans ?_
    · simp only [sSet, m1, mN, mCons, mVar, mNil, mLc, iL, List.getElem?_cons_succ, List.getElem?_cons_zero, bindR_ok, so, rv, itL, if_pos kl, lc, finV, dp, bindS_ok, List.set_cons_succ, List.set_cons_zero]
    · simp only [sIf, mOr, mB, m2, mN, mCons, mC, mVar, mNil, List.getElem?_cons_succ, List.getElem?_cons_zero, bindR_ok, s3, isn, f1, f2, f3, isB, bindS_ok, Bool.false_eq_true, if_false, sNil, List.nil_append]
  have pf : okO (some (.fz (ns.map .int))) = true := by rw [okO, pureV]; exact pure_ints ns
  exact sGc_app (ks := [1, 2, 3, 4, 5, 6, 7, 8]) (h := []) B (by
    show clL 0 [some (.fz (ns.map .int)), none, none, none, none, none, none, none, none, none] = true
    rw [clX pf, clX rfl, clX rfl, clX rfl, clX rfl, clX rfl, clX rfl, clX rfl, clX rfl, clX rfl, clL])
end
theorem law_all (ns : List Int) (hn : ns.length ≤ 63) : ∃ h', m_law [.fz (ns.map .int)] [] = .ok (.bl true) h' := by
  refine ⟨[], fnM_rt ?_⟩
  show mb_law [some (.fz (ns.map .int)), none, none, none, none, none, none, none, none, none] [] = _
  have el : mLen [.fz (ns.map .int)] [] = .ok (.int ns.length) [] := by
    show R.ok (MV.int (ns.map MV.int).length) [] = _
    rw [List.length_map]
  generalize hN : (max 1 (min (ns.length : Int) 16)) = N
  have hN' : (if (if (16 : Int) < (ns.length : Int) then (16 : Int) else (ns.length : Int)) > 1 then (if (16 : Int) < (ns.length : Int) then (16 : Int) else (ns.length : Int)) else 1) = N := by
    rw [← hN]; omega
  have hin : inB N = true := inB_of (by omega) (by omega)
  obtain ⟨σ', h', loop, rfl, rfl, _⟩ := forGo_list (chk := fun _ => true) (g := gmName 1) (body := sGc [1, 2, 3, 4, 5, 6, 7, 8] lb_law_0) (q := fun i : Nat => MV.int (0 + (i : Int) * 1))
    (fun xs σ G => σ = [some (.fz (ns.map .int)), none, none, none, none, none, none, none, none, none] ∧ G = [] ∧ ∀ i ∈ xs, i < 100)
    (fun i xs σ G ⟨hσ, hG, lt⟩ => by
      subst hσ hG
      have hi := lt i List.mem_cons_self
      have e := cell_i (k := 0 + (i : Int) * 1) hn (by omega) (by omega)
      exact ⟨rfl, _, _, rfl, _, _, e, rfl, rfl, fun i hi => lt i (List.mem_cons_of_mem _ hi)⟩)
    (fun _ _ _ => rfl) (List.range N.toNat) [some (.fz (ns.map .int)), none, none, none, none, none, none, none, none, none] [] ⟨rfl, rfl, fun i hi => by have := List.mem_range.mp hi; omega⟩
  unfold mb_law
  refine (seq_nx (σ1 := [some (.fz (ns.map .int)), none, none, none, none, none, none, none, none, none]) (h1 := []) ?_).trans ?_
  · have emin : mMin [.int ns.length, .int 16] [] = .ok (.int (if (16 : Int) < (ns.length : Int) then (16 : Int) else (ns.length : Int))) [] := rfl
    have emax : mMax [.int 1, .int (if (16 : Int) < (ns.length : Int) then (16 : Int) else (ns.length : Int))] [] = .ok (.int N) [] := by rw [← hN']; rfl
    refine (sFor_rg1 (j := N) (h1 := []) ?_ hin).trans loop
    simp only [mN, mCons, mC, mVar, mNil, bindR_ok, List.getElem?_cons_zero, el, emin, emax]
  · have z0 : 0 ≤ SZ := by decide
    have lz : ([] : As En).length ≤ 1000 := by decide
    have c1 := covered_F (t := []) [] lz
    have c1 : cF 1 m_covered [.dv [] []] [] = .ok (.dv [] []) [] := c1
    have c2 := eqA_tabG dat_cv (asD_dvG cvM [] []) (asD_dvG cvM [] [])
    have c2 : mEqA (.dv [] []) (.dv [] []) [] = .ok (.bl true) [] := c2
    have c3 := can_F [] []
    have c3 : cF 1 m_can_be_great [.dv [] []] [] = .ok (.lv []) [] := c3
    have c4 := eqA_ints [] [] []
    have c4 : mEqA (.lv []) (.lv []) [] = .ok (.bl true) [] := c4
    have c5 := same_F (t := []) (u := []) [] lz lz
    have c5 : cF 2 m_same_said [.dv [] [], .dv [] []] [] = .ok (.bl true) [] := c5
    have c6 : mIs (.bl true) (.bl true) [] = .ok (.bl true) [] := rfl
    simp only [sRet, mAndV, m2, mN, mCons, mC, mNil, mDictV, finDV, List.map_nil, bindR_ok, c1, c2, isTru, if_true, c3, mkLv, List.length_nil, if_pos z0, c4, c5, c6, bindS_ok]
end MP

/-! printed by gen.py: the derivations of law_k12_what_tables_say -/
namespace MP
open PySem PySem.Spec PyProof.Rows L2
def topS (i : Nat) : Stmt := PySem.Challenge.pw_greatframes_k12_what_tables_say.main.body.getD i (.Pass ⟨0, 0, 0, 0⟩)
abbrev s_parts_of : Stmt := topS 3
abbrev N_parts_of : List Str := ["address", "entry", "word", "frame", "rights", "many", "more"]
theorem sc_parts_of : FnScope N_parts_of ["address", "entry"] (defScope s_parts_of) := ⟨rfl, rfl, rfl, by decide +kernel, rfl, by decide +kernel, by decide +kernel⟩
abbrev s_covered : Stmt := topS 4
abbrev N_covered : List Str := ["table", "own", "entry", "address", "told"]
theorem sc_covered : FnScope N_covered ["table"] (defScope s_covered) := ⟨rfl, rfl, rfl, by decide +kernel, rfl, by decide +kernel, by decide +kernel⟩
abbrev s_same_said : Stmt := topS 5
abbrev N_same_said : List Str := ["one", "other"]
theorem sc_same_said : FnScope N_same_said ["one", "other"] (defScope s_same_said) := ⟨rfl, rfl, rfl, by decide +kernel, rfl, by decide +kernel, by decide +kernel⟩
abbrev s_fits_great : Stmt := topS 6
abbrev N_fits_great : List Str := ["table", "first", "some", "frame", "rights", "more", "entry"]
theorem sc_fits_great : FnScope N_fits_great ["table", "first"] (defScope s_fits_great) := ⟨rfl, rfl, rfl, by decide +kernel, rfl, by decide +kernel, by decide +kernel⟩
abbrev s_can_be_great : Stmt := topS 7
abbrev N_can_be_great : List Str := ["table", "first"]
theorem sc_can_be_great : FnScope N_can_be_great ["table"] (defScope s_can_be_great) := ⟨rfl, rfl, rfl, by decide +kernel, rfl, by decide +kernel, by decide +kernel⟩
abbrev s_law_draw : Stmt := topS 9
abbrev N_law_draw : List Str := ["_law_pool_here", "_law_many", "_law_found"]
theorem sc_law_draw : FnScope N_law_draw ["_law_pool_here", "_law_many"] (defScope s_law_draw) := ⟨rfl, rfl, rfl, by decide +kernel, rfl, by decide +kernel, by decide +kernel⟩
abbrev s_law_fits : Stmt := topS 10
abbrev N_law_fits : List Str := ["_law_a_table", "_law_first", "_law_some", "_law_more", "_law_entry_here"]
theorem sc_law_fits : FnScope N_law_fits ["_law_a_table", "_law_first"] (defScope s_law_fits) := ⟨rfl, rfl, rfl, by decide +kernel, rfl, by decide +kernel, by decide +kernel⟩
abbrev s_law_entry : Stmt := topS 11
abbrev N_law_entry : List Str := ["_law_pool_here", "_law_size", "_law_frame", "_law_rights"]
theorem sc_law_entry : FnScope N_law_entry ["_law_pool_here", "_law_size"] (defScope s_law_entry) := ⟨rfl, rfl, rfl, by decide +kernel, rfl, by decide +kernel, by decide +kernel⟩
abbrev s_law_table : Stmt := topS 12
abbrev N_law_table : List Str := ["_law_pool_here", "_law_size", "_law_found", "_law_first", "_law_way", "_law_rights", "_law_frame", "_law_begin", "_law_more"]
theorem sc_law_table : FnScope N_law_table ["_law_pool_here", "_law_size"] (defScope s_law_table) := ⟨rfl, rfl, rfl, by decide +kernel, rfl, by decide +kernel, by decide +kernel⟩
abbrev s_law_covered : Stmt := topS 13
abbrev N_law_covered : List Str := ["_law_a_table", "_law_found", "_law_address", "_law_word", "_law_frame", "_law_rights", "_law_more"]
theorem sc_law_covered : FnScope N_law_covered ["_law_a_table"] (defScope s_law_covered) := ⟨rfl, rfl, rfl, by decide +kernel, rfl, by decide +kernel, by decide +kernel⟩
abbrev s_law_pool : Stmt := topS 14
abbrev N_law_pool : List Str := ["_law_script", "_law_k", "_law_cell", "_law_size", "_law_mixed"]
theorem sc_law_pool : FnScope N_law_pool ["_law_script", "_law_k"] (defScope s_law_pool) := ⟨rfl, rfl, rfl, by decide +kernel, rfl, by decide +kernel, by decide +kernel⟩
abbrev s_law_other : Stmt := topS 15
abbrev N_law_other : List Str := ["_law_pool_here", "_law_a_table", "_law_size", "_law_found", "_law_way", "_law_address", "_law_word", "_law_frame", "_law_rights", "_law_first", "_law_more"]
theorem sc_law_other : FnScope N_law_other ["_law_pool_here", "_law_a_table", "_law_size"] (defScope s_law_other) := ⟨rfl, rfl, rfl, by decide +kernel, rfl, by decide +kernel, by decide +kernel⟩
abbrev s_law_right : Stmt := topS 16
abbrev N_law_right : List Str := ["_law_a_table", "_law_text", "_law_due", "_law_turn", "_law_found", "_law_first"]
theorem sc_law_right : FnScope N_law_right ["_law_a_table"] (defScope s_law_right) := ⟨rfl, rfl, rfl, by decide +kernel, rfl, by decide +kernel, by decide +kernel⟩
abbrev s_law : Stmt := topS 17
abbrev N_law : List Str := ["_law_script", "_law_k", "_law_pool_here", "_law_size", "_law_own_table", "_law_later_table", "_law_due", "_law_said", "_law_turned", "_law_address"]
theorem sc_law : FnScope N_law ["_law_script"] (defScope s_law) := ⟨rfl, rfl, rfl, by decide +kernel, rfl, by decide +kernel, by decide +kernel⟩
def gv_kb_can_be_great_0 : List Value → List Value → List Value := fun us ws => match us, ws with | [], [a0] => [a0] | _, _ => []
def gV_kb_can_be_great_0 : List V → List V → List V := fun us ws => match us, ws with | [], [a0] => [a0] | _, _ => []
theorem r_kb_can_be_great_0 {c : C} : ∀ ι β H ms vs, RepVs c.K ι β H ms vs → RepVs c.K ι β H (g_kb_can_be_great_0 ms) (gV_kb_can_be_great_0 [] vs) := by
  intro ι β H ms vs r
  unfold g_kb_can_be_great_0
  split
  · obtain ⟨v0, rfl, q0⟩ := Vs1 r
    exact .cons q0 (.nil)
  · rename_i hn
    unfold gV_kb_can_be_great_0
    split
    · exfalso
      have hl := r.length
      match ms, hl with
      | [x0], _ => exact hn x0 rfl
    · exact .nil
theorem rv_kb_can_be_great_0 {vs : List V} {us : List Value} {zs : List V} {ws : List Value} (h1 : Vals vs us) (h2 : Vals zs ws) : Vals (gV_kb_can_be_great_0 vs zs) (gv_kb_can_be_great_0 us ws) := by
  cases h1 with
  | cons _ _ => exact .nil
  | nil =>
    cases h2 with
    | nil => exact .nil
    | cons p0 h3 =>
      cases h3 with
      | cons _ _ => exact .nil
      | nil => exact .cons p0 (.nil)
def gv_kb_covered_0 : List Value → List Value → List Value := fun us ws => match us, ws with | [], [a0] => [a0] | _, _ => []
def gV_kb_covered_0 : List V → List V → List V := fun us ws => match us, ws with | [], [a0] => [a0] | _, _ => []
theorem r_kb_covered_0 {c : C} : ∀ ι β H ms vs, RepVs c.K ι β H ms vs → RepVs c.K ι β H (g_kb_covered_0 ms) (gV_kb_covered_0 [] vs) := by
  intro ι β H ms vs r
  unfold g_kb_covered_0
  split
  · obtain ⟨v0, rfl, q0⟩ := Vs1 r
    exact .cons q0 (.nil)
  · rename_i hn
    unfold gV_kb_covered_0
    split
    · exfalso
      have hl := r.length
      match ms, hl with
      | [x0], _ => exact hn x0 rfl
    · exact .nil
theorem rv_kb_covered_0 {vs : List V} {us : List Value} {zs : List V} {ws : List Value} (h1 : Vals vs us) (h2 : Vals zs ws) : Vals (gV_kb_covered_0 vs zs) (gv_kb_covered_0 us ws) := by
  cases h1 with
  | cons _ _ => exact .nil
  | nil =>
    cases h2 with
    | nil => exact .nil
    | cons p0 h3 =>
      cases h3 with
      | cons _ _ => exact .nil
      | nil => exact .cons p0 (.nil)
def gv_kb_same_said_10 : List Value → List Value → List Value := fun us ws => match us, ws with | [], [a0, a1] => [a1, a0] | _, _ => []
def gV_kb_same_said_10 : List V → List V → List V := fun us ws => match us, ws with | [], [a0, a1] => [a1, a0] | _, _ => []
theorem r_kb_same_said_10 {c : C} : ∀ ι β H ms vs, RepVs c.K ι β H ms vs → RepVs c.K ι β H (g_kb_same_said_10 ms) (gV_kb_same_said_10 [] vs) := by
  intro ι β H ms vs r
  unfold g_kb_same_said_10
  split
  · obtain ⟨v0, v1, rfl, q0, q1⟩ := Vs2 r
    exact .cons q1 (.cons q0 (.nil))
  · rename_i hn
    unfold gV_kb_same_said_10
    split
    · exfalso
      have hl := r.length
      match ms, hl with
      | [x0, x1], _ => exact hn x0 x1 rfl
    · exact .nil
theorem rv_kb_same_said_10 {vs : List V} {us : List Value} {zs : List V} {ws : List Value} (h1 : Vals vs us) (h2 : Vals zs ws) : Vals (gV_kb_same_said_10 vs zs) (gv_kb_same_said_10 us ws) := by
  cases h1 with
  | cons _ _ => exact .nil
  | nil =>
    cases h2 with
    | nil => exact .nil
    | cons p0 h3 =>
      cases h3 with
      | nil => exact .nil
      | cons p1 h4 =>
        cases h4 with
        | cons _ _ => exact .nil
        | nil => exact .cons p1 (.cons p0 (.nil))
structure Tx (P : Program) (w : World) (K : PySem.W.Frag) (mg : Str → Option Value) (base : Heap) (ca : Nat → Addr) where
  unit : True
  z_all : mg "all" = none
  z_dict : mg "dict" = none
  z_enumerate : mg "enumerate" = none
  z_int : mg "int" = none
  z_len : mg "len" = none
  z_max : mg "max" = none
  z_min : mg "min" = none
  z_range : mg "range" = none
  z_repr : mg "repr" = none
  z_sorted : mg "sorted" = none
  w_MOST_ADDRESS : V
  v_MOST_ADDRESS : ∃ u, mg "MOST_ADDRESS" = some u ∧ RelV w_MOST_ADDRESS u
  r_MOST_ADDRESS : ∀ ι β H, RepV (C.mk K ca).K ι β H (.int 31) w_MOST_ADDRESS
  w_STRETCH : V
  v_STRETCH : ∃ u, mg "STRETCH" = some u ∧ RelV w_STRETCH u
  r_STRETCH : ∀ ι β H, RepV (C.mk K ca).K ι β H (.int 4) w_STRETCH
  f_parts_of : Addr
  d_parts_of : FuncData
  F_parts_of : Fun K "parts_of" "parts_of" s_parts_of f_parts_of d_parts_of
  g_parts_of : mg "parts_of" = some (.ref f_parts_of)
  f_covered : Addr
  d_covered : FuncData
  F_covered : Fun K "covered" "covered" s_covered f_covered d_covered
  g_covered : mg "covered" = some (.ref f_covered)
  f_same_said : Addr
  d_same_said : FuncData
  F_same_said : Fun K "same_said" "same_said" s_same_said f_same_said d_same_said
  g_same_said : mg "same_said" = some (.ref f_same_said)
  f_fits_great : Addr
  d_fits_great : FuncData
  F_fits_great : Fun K "fits_great" "fits_great" s_fits_great f_fits_great d_fits_great
  g_fits_great : mg "fits_great" = some (.ref f_fits_great)
  f_can_be_great : Addr
  d_can_be_great : FuncData
  F_can_be_great : Fun K "can_be_great" "can_be_great" s_can_be_great f_can_be_great d_can_be_great
  g_can_be_great : mg "can_be_great" = some (.ref f_can_be_great)
  f_law_draw : Addr
  d_law_draw : FuncData
  F_law_draw : Fun K "_law_draw" "_law_draw" s_law_draw f_law_draw d_law_draw
  g_law_draw : mg "_law_draw" = some (.ref f_law_draw)
  f_law_fits : Addr
  d_law_fits : FuncData
  F_law_fits : Fun K "_law_fits" "_law_fits" s_law_fits f_law_fits d_law_fits
  g_law_fits : mg "_law_fits" = some (.ref f_law_fits)
  f_law_entry : Addr
  d_law_entry : FuncData
  F_law_entry : Fun K "_law_entry" "_law_entry" s_law_entry f_law_entry d_law_entry
  g_law_entry : mg "_law_entry" = some (.ref f_law_entry)
  f_law_table : Addr
  d_law_table : FuncData
  F_law_table : Fun K "_law_table" "_law_table" s_law_table f_law_table d_law_table
  g_law_table : mg "_law_table" = some (.ref f_law_table)
  f_law_covered : Addr
  d_law_covered : FuncData
  F_law_covered : Fun K "_law_covered" "_law_covered" s_law_covered f_law_covered d_law_covered
  g_law_covered : mg "_law_covered" = some (.ref f_law_covered)
  f_law_pool : Addr
  d_law_pool : FuncData
  F_law_pool : Fun K "_law_pool" "_law_pool" s_law_pool f_law_pool d_law_pool
  g_law_pool : mg "_law_pool" = some (.ref f_law_pool)
  f_law_other : Addr
  d_law_other : FuncData
  F_law_other : Fun K "_law_other" "_law_other" s_law_other f_law_other d_law_other
  g_law_other : mg "_law_other" = some (.ref f_law_other)
  f_law_right : Addr
  d_law_right : FuncData
  F_law_right : Fun K "_law_right" "_law_right" s_law_right f_law_right d_law_right
  g_law_right : mg "_law_right" = some (.ref f_law_right)
  f_law : Addr
  d_law : FuncData
  F_law : Fun K "law" "law" s_law f_law d_law
  g_law : mg "law" = some (.ref f_law)
section
variable {P : Program} {w : World} {K : PySem.W.Frag} {mg : Str → Option Value} {base : Heap} {ca : Nat → Addr}
theorem Tx.k_parts_of (T : Tx P w K mg base ca) : PySem.W.keepIn K (.ref T.f_parts_of) = true := T.F_parts_of.kp
theorem Tx.b_parts_of (T : Tx P w K mg base ca) : Binds K T.d_parts_of ["address", "entry"] [] := T.F_parts_of.binds fun _ _ _ _ _ _ us hl => match us, hl with | [_, _], _ => rfl
theorem Tx.ok_parts_of (T : Tx P w K mg base ca) : FnG P w K mg base (L2.CX P w) 1 T.f_parts_of T.d_parts_of ["address", "entry"] (spM (C.mk K ca) 2 m_parts_of) := by
  refine fn_okM (c := C.mk K ca) T.F_parts_of sc_parts_of fun cdv A outer s H E hr => ?_
  have tk := takes_of (X := cxOf (L2.CX P w) P w K mg base N_parts_of "parts_of" (defScope s_parts_of) T.f_parts_of cdv A outer s H E) rfl rfl rfl rfl
  exact (ss_cons (s_asg (e_var 1 (pv 1)) (g_tup rfl rfl (gs_cons (g_name (i := 2) sc_parts_of.nd rfl (Or.inl rfl)) (gs_cons (g_name (i := 3) sc_parts_of.nd rfl (Or.inr rfl)) (gs_cons (g_name (i := 4) sc_parts_of.nd rfl (Or.inr rfl)) gs_nil)))))
  (ss_cons (s_set (i := 5) sc_parts_of.nd rfl (Or.inl rfl) (e_if (t_cmp (op_eqX (hu65 hr)) p_eqX (e_var 2 (pv 2)) (e_c pe_str rstr) (nomark _)) (e_c (C8.pe_gc rfl T.v_STRETCH) T.r_STRETCH) (e_c pe_int rint)))
  (ss_one (s_ret (e_lc (own := [("more", 6)]) finR fin_R rfl sc_parts_of.nd  (i_range1 (by rfl) T.z_range (a_cons (e_var 5 (pv 5)) a_nil)) (blkOk_by (own := [("more", 6)]) (N := N_parts_of) (sc := defScope s_parts_of) (by decide +kernel)) (rd_name (by decide)) (fun _ _ _ _ _ => (pg_name (i := 6) sc_parts_of.nd rfl (Or.inl rfl))) (fun _ _ _ _ _ => pts0) (fun _ _ _ _ _ => (e_tup (a_cons (e_op op_add4 (p_add finN_V) (e_var 0 (pv 0)) (e_var 6 (pv 6))) (a_cons (e_tup (a_cons (e_op op_add4 (p_add finN_V) (e_var 3 (pv 3)) (e_var 6 (pv 6))) (a_cons (e_var 4 (pv 4)) a_nil))) a_nil)))))))))
theorem Tx.k_covered (T : Tx P w K mg base ca) : PySem.W.keepIn K (.ref T.f_covered) = true := T.F_covered.kp
theorem Tx.b_covered (T : Tx P w K mg base ca) : Binds K T.d_covered ["table"] [] := T.F_covered.binds fun _ _ _ _ _ _ us hl => match us, hl with | [_], _ => rfl
theorem Tx.kb_covered_0 (T : Tx P w K mg base ca) : KBinds K T.d_covered ["table"] ["table"] gv_kb_covered_0 gV_kb_covered_0 := by
  obtain ⟨oc, od, kV, doc, pm, an, cdv, ct, osl, e, lk, hcd⟩ := T.F_covered.ex
  rw [e]
  refine ⟨fun s us ws _ hl => ?_, fun h1 h2 => rv_kb_covered_0 h1 h2⟩
  match us, ws, hl with
  | [], [_], _ => exact .of_eq rfl
theorem Tx.ok_covered (T : Tx P w K mg base ca) : FnG P w K mg base (L2.CX P w) 2 T.f_covered T.d_covered ["table"] (spM (C.mk K ca) 1 m_covered) := by
  refine fn_okM (c := C.mk K ca) T.F_covered sc_covered fun cdv A outer s H E hr => ?_
  have tk := takes_of (X := cxOf (L2.CX P w) P w K mg base N_covered "covered" (defScope s_covered) T.f_covered cdv A outer s H E) rfl rfl rfl rfl
  exact (ss_one (s_ret (e_dc2 (own := [("own", 1), ("entry", 2), ("address", 3), ("told", 4)]) (vs2 := [3, 4]) finDR finD_R rfl sc_covered.nd (i_items (e_var 0 (pv 0))) (blkOk_by (own := [("own", 1), ("entry", 2), ("address", 3), ("told", 4)]) (N := N_covered) (sc := defScope s_covered) (by decide +kernel)) (rd_tup rfl rfl (rds_cons (rd_name (by decide)) (rds_cons (rd_name (by decide)) rds_nil))) (rd_tup rfl rfl (rds_cons (rd_name (by decide)) (rds_cons (rd_name (by decide)) rds_nil))) (fun _ _ _ _ _ => (pg_tup rfl (pgs_cons (pg_name (i := 1) sc_covered.nd rfl (Or.inl rfl)) (pgs_cons (pg_name (i := 2) sc_covered.nd rfl (Or.inl rfl)) pgs_nil)))) (fun _ _ _ _ _ => (i_list rfl (e_call way_F T.ok_parts_of (hr.less (by decide)) (by rfl) T.g_parts_of T.k_parts_of T.b_parts_of takes0 (a_cons (e_var 1 (pv 1)) (a_cons (e_var 2 (pv 2)) a_nil))))) (fun _ _ _ _ _ => (pg_tup rfl (pgs_cons (pg_name (i := 3) sc_covered.nd rfl (Or.inl rfl)) (pgs_cons (pg_name (i := 4) sc_covered.nd rfl (Or.inl rfl)) pgs_nil)))) (fun _ _ _ _ _ => (e_var 3 (pv 3))) (fun _ _ _ _ _ => (e_var 4 (pv 4))) (wipe_sub (by decide)))))
theorem Tx.k_same_said (T : Tx P w K mg base ca) : PySem.W.keepIn K (.ref T.f_same_said) = true := T.F_same_said.kp
theorem Tx.b_same_said (T : Tx P w K mg base ca) : Binds K T.d_same_said ["one", "other"] [] := T.F_same_said.binds fun _ _ _ _ _ _ us hl => match us, hl with | [_, _], _ => rfl
theorem Tx.kb_same_said_10 (T : Tx P w K mg base ca) : KBinds K T.d_same_said ["one", "other"] ["other", "one"] gv_kb_same_said_10 gV_kb_same_said_10 := by
  obtain ⟨oc, od, kV, doc, pm, an, cdv, ct, osl, e, lk, hcd⟩ := T.F_same_said.ex
  rw [e]
  refine ⟨fun s us ws _ hl => ?_, fun h1 h2 => rv_kb_same_said_10 h1 h2⟩
  match us, ws, hl with
  | [], [_, _], _ => exact .of_eq rfl
theorem Tx.ok_same_said (T : Tx P w K mg base ca) : FnG P w K mg base (L2.CX P w) 3 T.f_same_said T.d_same_said ["one", "other"] (spM (C.mk K ca) 2 m_same_said) := by
  refine fn_okM (c := C.mk K ca) T.F_same_said sc_same_said fun cdv A outer s H E hr => ?_
  have tk := takes_of (X := cxOf (L2.CX P w) P w K mg base N_same_said "same_said" (defScope s_same_said) T.f_same_said cdv A outer s H E) rfl rfl rfl rfl
  exact (ss_one (s_ret (e_cmp (op_eqX (hu65 hr)) p_eqX (e_call way_F T.ok_covered (hr.less (by decide)) (by rfl) T.g_covered T.k_covered T.b_covered tk (a_cons (e_var 0 (pv 0)) a_nil)) (e_call way_F T.ok_covered (hr.less (by decide)) (by rfl) T.g_covered T.k_covered T.b_covered tk (a_cons (e_var 1 (pv 1)) a_nil)) (nomark _))))
theorem Tx.k_fits_great (T : Tx P w K mg base ca) : PySem.W.keepIn K (.ref T.f_fits_great) = true := T.F_fits_great.kp
theorem Tx.b_fits_great (T : Tx P w K mg base ca) : Binds K T.d_fits_great ["table", "first"] [] := T.F_fits_great.binds fun _ _ _ _ _ _ us hl => match us, hl with | [_, _], _ => rfl
theorem Tx.ok_fits_great (T : Tx P w K mg base ca) : FnG P w K mg base (L2.CX P w) 1 T.f_fits_great T.d_fits_great ["table", "first"] (spM (C.mk K ca) 2 m_fits_great) := by
  refine fn_okM (c := C.mk K ca) T.F_fits_great sc_fits_great fun cdv A outer s H E hr => ?_
  have tk := takes_of (X := cxOf (L2.CX P w) P w K mg base N_fits_great "fits_great" (defScope s_fits_great) T.f_fits_great cdv A outer s H E) rfl rfl rfl rfl
  exact (ss_cons (s_setLc (i := 2) (own := [("more", 5)]) finV fin_V rfl sc_fits_great.nd rfl rfl (sw_true rfl rfl rfl (by decide +kernel))  (i_range1 (by rfl) T.z_range (a_cons (e_c (C8.pe_gc rfl T.v_STRETCH) T.r_STRETCH) a_nil)) (blkOk_by (own := [("more", 5)]) (N := N_fits_great) (sc := defScope s_fits_great) (by decide +kernel)) (rd_name (by decide)) (fun _ _ _ _ _ => (pg_name (i := 5) sc_fits_great.nd rfl (Or.inl rfl))) (fun _ _ _ _ _ => pts0) (fun _ _ _ _ _ => (e_dget1 (hu_of hr.toRoom) (e_var 0 (pv 0)) (e_op op_add4 (p_add finN_V) (e_var 1 (pv 1)) (e_var 5 (pv 5))) ⟨rfl, rfl, rfl, rfl⟩)))
  (ss_cons (s_if (PW.pt (w_or (t_cmp (op_inA (hu65 hr)) p_inA (e_c pe_non rnon) (e_var 2 (pv 2)) (by rfl)) (w_one2 (t_not (t_tru (e_builtin (cr_all rfl) p_all (by rfl) T.z_all (by decide +kernel) (a_cons (e_lc (own := [("entry", 6)]) finV fin_V rfl sc_fits_great.nd  (i_list rfl (e_var 2 (pv 2))) (blkOk_by (own := [("entry", 6)]) (N := N_fits_great) (sc := defScope s_fits_great) (by decide +kernel)) (rd_name (by decide)) (fun _ _ _ _ _ => (pg_name (i := 6) sc_fits_great.nd rfl (Or.inl rfl))) (fun _ _ _ _ _ => pts0) (fun _ _ _ _ _ => (e_cmp (op_eqX (hu65 hr)) p_eqX (e_ixA (hu_of hr.toRoom) rfl (e_var 6 (pv 6)) (e_c pe_int rint) (fun _ _ => rfl)) (e_c pe_str rstr) (nomark _)))) a_nil)))))))
  (ss_one (s_ret (e_c pe_bl rbl)))
  ss_nil)
  (ss_cons (s_asg (e_slice finN_V rfl (e_ixA (hu_of hr.toRoom) rfl (e_var 2 (pv 2)) (e_c pe_int rint) (fun _ _ => rfl)) (o_some (e_c pe_int rint)) o_none) (g_tup rfl rfl (gs_cons (g_name (i := 3) sc_fits_great.nd rfl (Or.inr rfl)) (gs_cons (g_name (i := 4) sc_fits_great.nd rfl (Or.inr rfl)) gs_nil))))
  (ss_cons (s_if (t_cmp (op_neX (hu65 hr)) p_neX (e_op op_mod p_mod (e_var 3 (pv 3)) (e_c (C8.pe_gc rfl T.v_STRETCH) T.r_STRETCH)) (e_c pe_int rint) (nomark _))
  (ss_one (s_ret (e_c pe_bl rbl)))
  ss_nil)
  (ss_one (s_ret (e_builtin (cr_all rfl) p_all (by rfl) T.z_all (by decide +kernel) (a_cons (e_lc (own := [("more", 5), ("entry", 6)]) finV fin_V rfl sc_fits_great.nd  (i_enum rfl (by rfl) T.z_enumerate (a_cons (e_var 2 (pv 2)) a_nil)) (blkOk_by (own := [("more", 5), ("entry", 6)]) (N := N_fits_great) (sc := defScope s_fits_great) (by decide +kernel)) (rd_tup rfl rfl (rds_cons (rd_name (by decide)) (rds_cons (rd_name (by decide)) rds_nil))) (fun _ _ _ _ _ => (pg_tup rfl (pgs_cons (pg_name (i := 5) sc_fits_great.nd rfl (Or.inl rfl)) (pgs_cons (pg_name (i := 6) sc_fits_great.nd rfl (Or.inl rfl)) pgs_nil)))) (fun _ _ _ _ _ => pts0) (fun _ _ _ _ _ => (e_cmp (op_eqX (hu65 hr)) p_eqX (e_slice finN_V rfl (e_var 6 (pv 6)) (o_some (e_c pe_int rint)) o_none) (e_tup (a_cons (e_op op_add4 (p_add finN_V) (e_var 3 (pv 3)) (e_var 5 (pv 5))) (a_cons (e_var 4 (pv 4)) a_nil))) (nomark _)))) a_nil))))))))
theorem Tx.k_can_be_great (T : Tx P w K mg base ca) : PySem.W.keepIn K (.ref T.f_can_be_great) = true := T.F_can_be_great.kp
theorem Tx.b_can_be_great (T : Tx P w K mg base ca) : Binds K T.d_can_be_great ["table"] [] := T.F_can_be_great.binds fun _ _ _ _ _ _ us hl => match us, hl with | [_], _ => rfl
theorem Tx.kb_can_be_great_0 (T : Tx P w K mg base ca) : KBinds K T.d_can_be_great ["table"] ["table"] gv_kb_can_be_great_0 gV_kb_can_be_great_0 := by
  obtain ⟨oc, od, kV, doc, pm, an, cdv, ct, osl, e, lk, hcd⟩ := T.F_can_be_great.ex
  rw [e]
  refine ⟨fun s us ws _ hl => ?_, fun h1 h2 => rv_kb_can_be_great_0 h1 h2⟩
  match us, ws, hl with
  | [], [_], _ => exact .of_eq rfl
theorem Tx.ok_can_be_great (T : Tx P w K mg base ca) : FnG P w K mg base (L2.CX P w) 2 T.f_can_be_great T.d_can_be_great ["table"] (spM (C.mk K ca) 1 m_can_be_great) := by
  refine fn_okM (c := C.mk K ca) T.F_can_be_great sc_can_be_great fun cdv A outer s H E hr => ?_
  have tk := takes_of (X := cxOf (L2.CX P w) P w K mg base N_can_be_great "can_be_great" (defScope s_can_be_great) T.f_can_be_great cdv A outer s H E) rfl rfl rfl rfl
  exact (ss_one (s_ret (e_lc (own := [("first", 1)]) finR fin_R rfl sc_can_be_great.nd  (i_range3 (by rfl) T.z_range (a_cons (e_c pe_int rint) (a_cons (e_op op_add4 (p_add finN_V) (e_c (C8.pe_gc rfl T.v_MOST_ADDRESS) T.r_MOST_ADDRESS) (e_c pe_int rint)) (a_cons (e_c (C8.pe_gc rfl T.v_STRETCH) T.r_STRETCH) a_nil)))) (blkOk_by (own := [("first", 1)]) (N := N_can_be_great) (sc := defScope s_can_be_great) (by decide +kernel)) (rd_name (by decide)) (fun _ _ _ _ _ => (pg_name (i := 1) sc_can_be_great.nd rfl (Or.inl rfl))) (fun _ _ _ _ _ => (pts1 (t_tru (e_call way_F T.ok_fits_great (hr.less (by decide)) (by rfl) T.g_fits_great T.k_fits_great T.b_fits_great takes0 (a_cons (e_var 0 (pv 0)) (a_cons (e_var 1 (pv 1)) a_nil)))))) (fun _ _ _ _ _ => (e_var 1 (pv 1))))))
theorem Tx.k_law_draw (T : Tx P w K mg base ca) : PySem.W.keepIn K (.ref T.f_law_draw) = true := T.F_law_draw.kp
theorem Tx.b_law_draw (T : Tx P w K mg base ca) : Binds K T.d_law_draw ["_law_pool_here", "_law_many"] [] := T.F_law_draw.binds fun _ _ _ _ _ _ us hl => match us, hl with | [_, _], _ => rfl
theorem Tx.ok_law_draw (T : Tx P w K mg base ca) : FnG P w K mg base (L2.CX P w) 1 T.f_law_draw T.d_law_draw ["_law_pool_here", "_law_many"] (spM (C.mk K ca) 2 m_law_draw) := by
  refine fn_okM (c := C.mk K ca) T.F_law_draw sc_law_draw fun cdv A outer s H E hr => ?_
  have tk := takes_of (X := cxOf (L2.CX P w) P w K mg base N_law_draw "_law_draw" (defScope s_law_draw) T.f_law_draw cdv A outer s H E) rfl rfl rfl rfl
  exact (ss_cons (s_if (t_cmp op_gt p_gt (e_ixA (hu_of hr.toRoom) rfl (e_var 0 (pv 0)) (e_c pe_int rint) (fun _ _ => rfl)) (e_c pe_int rint) (nomark _))
  (ss_cons (s_set (i := 2) sc_law_draw.nd rfl (Or.inl rfl) (e_op op_mod p_mod (e_ixA (hu_of hr.toRoom) rfl (e_var 0 (pv 0)) (e_c pe_int rint) (fun _ _ => rfl)) (e_var 1 (pv 1))))
  (ss_cons (s_setA (hu_of hr.toRoom) (e_op op_fdiv p_div (e_ixA (hu_of hr.toRoom) rfl (e_var 0 (pv 0)) (e_c pe_int rint) (fun _ _ => rfl)) (e_var 1 (pv 1))) (e_var 0 (pv 0)) (e_c pe_int rint))
  (ss_one (s_ret (e_var 2 (pv 2))))))
  ss_nil)
  (ss_cons (s_setA (hu_of hr.toRoom) (e_op op_mod p_mod (e_op op_add4 (p_add finN_V) (e_op op_mulA (p_mulA finN_V) (e_ixA (hu_of hr.toRoom) rfl (e_var 0 (pv 0)) (e_c pe_int rint) (fun _ _ => rfl)) (e_c pe_int rint)) (e_c pe_int rint)) (e_c pe_int rint)) (e_var 0 (pv 0)) (e_c pe_int rint))
  (ss_one (s_ret (e_op op_mod p_mod (e_op op_fdiv p_div (e_op op_mod p_mod (e_op op_mulA (p_mulA finN_V) (e_ixA (hu_of hr.toRoom) rfl (e_var 0 (pv 0)) (e_c pe_int rint) (fun _ _ => rfl)) (e_ixA (hu_of hr.toRoom) rfl (e_var 0 (pv 0)) (e_c pe_int rint) (fun _ _ => rfl))) (e_c pe_int rint)) (e_c pe_int rint)) (e_var 1 (pv 1)))))))
theorem Tx.k_law_fits (T : Tx P w K mg base ca) : PySem.W.keepIn K (.ref T.f_law_fits) = true := T.F_law_fits.kp
theorem Tx.b_law_fits (T : Tx P w K mg base ca) : Binds K T.d_law_fits ["_law_a_table", "_law_first"] [] := T.F_law_fits.binds fun _ _ _ _ _ _ us hl => match us, hl with | [_, _], _ => rfl
theorem Tx.ok_law_fits (T : Tx P w K mg base ca) : FnG P w K mg base (L2.CX P w) 1 T.f_law_fits T.d_law_fits ["_law_a_table", "_law_first"] (spM (C.mk K ca) 2 m_law_fits) := by
  refine fn_okM (c := C.mk K ca) T.F_law_fits sc_law_fits fun cdv A outer s H E hr => ?_
  have tk := takes_of (X := cxOf (L2.CX P w) P w K mg base N_law_fits "_law_fits" (defScope s_law_fits) T.f_law_fits cdv A outer s H E) rfl rfl rfl rfl
  exact (ss_cons (s_set (i := 2) sc_law_fits.nd rfl (Or.inr rfl) (e_lc (own := [("_law_more", 3)]) finV fin_V rfl sc_law_fits.nd  (i_range1 (by rfl) T.z_range (a_cons (e_c pe_int rint) a_nil)) (blkOk_by (own := [("_law_more", 3)]) (N := N_law_fits) (sc := defScope s_law_fits) (by decide +kernel)) (rd_name (by decide)) (fun _ _ _ _ _ => (pg_name (i := 3) sc_law_fits.nd rfl (Or.inl rfl))) (fun _ _ _ _ _ => pts0) (fun _ _ _ _ _ => (e_dget2 (hu_of hr.toRoom) (e_var 0 (pv 0)) (e_op op_add4 (p_add finN_V) (e_var 1 (pv 1)) (e_var 3 (pv 3))) (e_tup (a_cons (e_c pe_str rstr) (a_cons (e_c pe_int rint) (a_cons (e_c pe_str rstr) a_nil)))) ⟨rfl, rfl, rfl, rfl⟩))))
  (ss_cons (s_if (t_cmp (op_neX (hu65 hr)) p_neX (e_lc (own := [("_law_entry_here", 4)]) finV fin_V rfl sc_law_fits.nd  (i_list rfl (e_var 2 (pv 2))) (blkOk_by (own := [("_law_entry_here", 4)]) (N := N_law_fits) (sc := defScope s_law_fits) (by decide +kernel)) (rd_name (by decide)) (fun _ _ _ _ _ => (pg_name (i := 4) sc_law_fits.nd rfl (Or.inl rfl))) (fun _ _ _ _ _ => (pts1 (PW.pt (w_or (t_cmp (op_neX (hu65 hr)) p_neX (e_ixA (hu_of hr.toRoom) rfl (e_var 4 (pv 4)) (e_c pe_int rint) (fun _ _ => rfl)) (e_c pe_str rstr) (nomark _)) (w_one2 (t_cmp (op_neX (hu65 hr)) p_neX (e_ixA (hu_of hr.toRoom) rfl (e_var 4 (pv 4)) (e_c pe_int rint) (fun _ _ => rfl)) (e_ixA (hu_of hr.toRoom) rfl (e_ixA (hu_of hr.toRoom) rfl (e_var 2 (pv 2)) (e_c pe_int rint) (fun _ _ => rfl)) (e_c pe_int rint) (fun _ _ => rfl)) (nomark _))))))) (fun _ _ _ _ _ => (e_var 4 (pv 4)))) (e_lv a_nil) (nomark _))
  (ss_one (s_ret (e_c pe_bl rbl)))
  ss_nil)
  (ss_one (s_ret (e_and (e_cmp (op_eqX (hu65 hr)) p_eqX (e_op op_mod p_mod (e_ixA (hu_of hr.toRoom) rfl (e_ixA (hu_of hr.toRoom) rfl (e_var 2 (pv 2)) (e_c pe_int rint) (fun _ _ => rfl)) (e_c pe_int rint) (fun _ _ => rfl)) (e_c pe_int rint)) (e_c pe_int rint) (nomark _)) (e_one (e_cmp (op_eqX (hu65 hr)) p_eqX (e_lc (own := [("_law_entry_here", 4)]) finV fin_V rfl sc_law_fits.nd  (i_list rfl (e_var 2 (pv 2))) (blkOk_by (own := [("_law_entry_here", 4)]) (N := N_law_fits) (sc := defScope s_law_fits) (by decide +kernel)) (rd_name (by decide)) (fun _ _ _ _ _ => (pg_name (i := 4) sc_law_fits.nd rfl (Or.inl rfl))) (fun _ _ _ _ _ => pts0) (fun _ _ _ _ _ => (e_op op_sub p_sub (e_ixA (hu_of hr.toRoom) rfl (e_var 4 (pv 4)) (e_c pe_int rint) (fun _ _ => rfl)) (e_ixA (hu_of hr.toRoom) rfl (e_ixA (hu_of hr.toRoom) rfl (e_var 2 (pv 2)) (e_c pe_int rint) (fun _ _ => rfl)) (e_c pe_int rint) (fun _ _ => rfl))))) (e_lv (a_cons (e_c pe_int rint) (a_cons (e_c pe_int rint) (a_cons (e_c pe_int rint) (a_cons (e_c pe_int rint) a_nil))))) (nomark _))))))))
theorem Tx.k_law_entry (T : Tx P w K mg base ca) : PySem.W.keepIn K (.ref T.f_law_entry) = true := T.F_law_entry.kp
theorem Tx.b_law_entry (T : Tx P w K mg base ca) : Binds K T.d_law_entry ["_law_pool_here", "_law_size"] [] := T.F_law_entry.binds fun _ _ _ _ _ _ us hl => match us, hl with | [_, _], _ => rfl
theorem Tx.ok_law_entry (T : Tx P w K mg base ca) : FnG P w K mg base (L2.CX P w) 2 T.f_law_entry T.d_law_entry ["_law_pool_here", "_law_size"] (spM (C.mk K ca) 2 m_law_entry) := by
  refine fn_okM (c := C.mk K ca) T.F_law_entry sc_law_entry fun cdv A outer s H E hr => ?_
  have tk := takes_of (X := cxOf (L2.CX P w) P w K mg base N_law_entry "_law_entry" (defScope s_law_entry) T.f_law_entry cdv A outer s H E) rfl rfl rfl rfl
  exact (ss_cons (s_set (i := 2) sc_law_entry.nd rfl (Or.inl rfl) (e_call way_F T.ok_law_draw (hr.less (by decide)) (by rfl) T.g_law_draw T.k_law_draw T.b_law_draw tk (a_cons (e_var 0 (pv 0)) (a_cons (e_var 1 (pv 1)) a_nil))))
  (ss_cons (s_set (i := 3) sc_law_entry.nd rfl (Or.inl rfl) (e_ixA (hu_of hr.toRoom) rfl (e_lv (a_cons (e_c pe_str rstr) (a_cons (e_c pe_str rstr) a_nil))) (e_call way_F T.ok_law_draw (hr.less (by decide)) (by rfl) T.g_law_draw T.k_law_draw T.b_law_draw tk (a_cons (e_var 0 (pv 0)) (a_cons (e_c pe_int rint) a_nil))) (fun _ _ => rfl)))
  (ss_one (s_ret (e_tup (a_cons (e_c pe_str rstr) (a_cons (e_var 2 (pv 2)) (a_cons (e_var 3 (pv 3)) a_nil))))))))
theorem Tx.k_law_table (T : Tx P w K mg base ca) : PySem.W.keepIn K (.ref T.f_law_table) = true := T.F_law_table.kp
theorem Tx.b_law_table (T : Tx P w K mg base ca) : Binds K T.d_law_table ["_law_pool_here", "_law_size"] [] := T.F_law_table.binds fun _ _ _ _ _ _ us hl => match us, hl with | [_, _], _ => rfl
theorem Tx.ok_law_table (T : Tx P w K mg base ca) : FnG P w K mg base (L2.CX P w) 3 T.f_law_table T.d_law_table ["_law_pool_here", "_law_size"] (spM (C.mk K ca) 2 m_law_table) := by
  refine fn_okM (c := C.mk K ca) T.F_law_table sc_law_table fun cdv A outer s H E hr => ?_
  have tk := takes_of (X := cxOf (L2.CX P w) P w K mg base N_law_table "_law_table" (defScope s_law_table) T.f_law_table cdv A outer s H E) rfl rfl rfl rfl
  exact (ss_cons (s_set (i := 2) sc_law_table.nd rfl (Or.inl rfl) e_dict)
  (ss_cons (s_for (passes_of rfl) rfl (i_range3 (by rfl) T.z_range (a_cons (e_c pe_int rint) (a_cons (e_c pe_int rint) (a_cons (e_c pe_int rint) a_nil)))) (g_name (i := 3) sc_law_table.nd rfl (Or.inr rfl)) (ss_gc [3, 4, 5, 6]
  (ss_cons (s_set (i := 4) sc_law_table.nd rfl (Or.inl rfl) (e_call way_F T.ok_law_draw (hr.less (by decide)) (by rfl) T.g_law_draw T.k_law_draw T.b_law_draw tk (a_cons (e_var 0 (pv 0)) (a_cons (e_c pe_int rint) a_nil))))
  (ss_cons (s_set (i := 5) sc_law_table.nd rfl (Or.inr rfl) (e_ixA (hu_of hr.toRoom) rfl (e_lv (a_cons (e_c pe_str rstr) (a_cons (e_c pe_str rstr) a_nil))) (e_call way_F T.ok_law_draw (hr.less (by decide)) (by rfl) T.g_law_draw T.k_law_draw T.b_law_draw tk (a_cons (e_var 0 (pv 0)) (a_cons (e_c pe_int rint) a_nil))) (fun _ _ => rfl)))
  (ss_cons (s_set (i := 6) sc_law_table.nd rfl (Or.inl rfl) (e_op op_mulA (p_mulA finN_V) (e_c pe_int rint) (e_call way_F T.ok_law_draw (hr.less (by decide)) (by rfl) T.g_law_draw T.k_law_draw T.b_law_draw tk (a_cons (e_var 0 (pv 0)) (a_cons (e_op op_fdiv p_div (e_var 1 (pv 1)) (e_c pe_int rint)) a_nil)))))
  (ss_one (s_if (t_cmp (op_eqX (hu65 hr)) p_eqX (e_var 4 (pv 4)) (e_c pe_int rint) (nomark _))
  (ss_one (s_setA (hu_of hr.toRoom) (e_tup (a_cons (e_c pe_str rstr) (a_cons (e_var 6 (pv 6)) (a_cons (e_var 5 (pv 5)) a_nil)))) (e_var 2 (pv 2)) (e_var 3 (pv 3))))
  (ss_one (s_if (t_cmp op_lt p_lt (e_var 4 (pv 4)) (e_c pe_int rint) (nomark _))
  (ss_cons (s_set (i := 7) sc_law_table.nd rfl (Or.inr rfl) (e_ixA (hu_of hr.toRoom) rfl (e_lv (a_cons (e_var 6 (pv 6)) (a_cons (e_var 6 (pv 6)) (a_cons (e_call way_F T.ok_law_draw (hr.less (by decide)) (by rfl) T.g_law_draw T.k_law_draw T.b_law_draw tk (a_cons (e_var 0 (pv 0)) (a_cons (e_op op_sub p_sub (e_var 1 (pv 1)) (e_c pe_int rint)) a_nil))) a_nil)))) (e_call way_F T.ok_law_draw (hr.less (by decide)) (by rfl) T.g_law_draw T.k_law_draw T.b_law_draw tk (a_cons (e_var 0 (pv 0)) (a_cons (e_c pe_int rint) a_nil))) (fun _ _ => rfl)))
  (ss_cons (s_expr (e_methD PySem.F.slot_dict_update PySem.F.type_dict_update (mtd_update rfl) p_dupd (e_var 2 (pv 2)) (a_cons (e_lc (own := [("_law_more", 8)]) finV fin_V rfl sc_law_table.nd  (i_range1 (by rfl) T.z_range (a_cons (e_c pe_int rint) a_nil)) (blkOk_by (own := [("_law_more", 8)]) (N := N_law_table) (sc := defScope s_law_table) (by decide +kernel)) (rd_name (by decide)) (fun _ _ _ _ _ => (pg_name (i := 8) sc_law_table.nd rfl (Or.inl rfl))) (fun _ _ _ _ _ => pts0) (fun _ _ _ _ _ => (e_tup (a_cons (e_op op_add4 (p_add finN_V) (e_var 3 (pv 3)) (e_var 8 (pv 8))) (a_cons (e_tup (a_cons (e_c pe_str rstr) (a_cons (e_op op_add4 (p_add finN_V) (e_var 7 (pv 7)) (e_var 8 (pv 8))) (a_cons (e_var 5 (pv 5)) a_nil)))) a_nil))))) a_nil)))
  (ss_cons (s_if (t_cmp (op_eqX (hu65 hr)) p_eqX (e_call way_F T.ok_law_draw (hr.less (by decide)) (by rfl) T.g_law_draw T.k_law_draw T.b_law_draw tk (a_cons (e_var 0 (pv 0)) (a_cons (e_c pe_int rint) a_nil))) (e_c pe_int rint) (nomark _))
  (ss_one (s_expr (e_methD PySem.F.slot_dict_update PySem.F.type_dict_update (mtd_update rfl) p_dupd (e_var 2 (pv 2)) (a_cons (e_lc (own := [("_law_more", 8)]) finV fin_V rfl sc_law_table.nd  (i_range1 (by rfl) T.z_range (a_cons (e_c pe_int rint) a_nil)) (blkOk_by (own := [("_law_more", 8)]) (N := N_law_table) (sc := defScope s_law_table) (by decide +kernel)) (rd_name (by decide)) (fun _ _ _ _ _ => (pg_name (i := 8) sc_law_table.nd rfl (Or.inl rfl))) (fun _ _ _ _ _ => pts0) (fun _ _ _ _ _ => (e_tup (a_cons (e_op op_add4 (p_add finN_V) (e_var 3 (pv 3)) (e_var 8 (pv 8))) (a_cons (e_tup (a_cons (e_c pe_str rstr) (a_cons (e_op op_sub p_sub (e_op op_add4 (p_add finN_V) (e_var 7 (pv 7)) (e_c pe_int rint)) (e_var 8 (pv 8))) (a_cons (e_var 5 (pv 5)) a_nil)))) a_nil))))) a_nil))))
  ss_nil)
  (ss_one (s_if (t_cmp (op_eqX (hu65 hr)) p_eqX (e_var 4 (pv 4)) (e_c pe_int rint) (nomark _))
  (ss_one (s_setA (hu_of hr.toRoom) (e_call way_F T.ok_law_entry (hr.less (by decide)) (by rfl) T.g_law_entry T.k_law_entry T.b_law_entry tk (a_cons (e_var 0 (pv 0)) (a_cons (e_var 1 (pv 1)) a_nil))) (e_var 2 (pv 2)) (e_op op_add4 (p_add finN_V) (e_var 3 (pv 3)) (e_call way_F T.ok_law_draw (hr.less (by decide)) (by rfl) T.g_law_draw T.k_law_draw T.b_law_draw tk (a_cons (e_var 0 (pv 0)) (a_cons (e_c pe_int rint) a_nil))))))
  ss_nil)))))
  (ss_one (s_if (t_cmp op_lt p_lt (e_var 4 (pv 4)) (e_c pe_int rint) (nomark _))
  (ss_one (s_for (passes_of rfl) rfl (i_range1 (by rfl) T.z_range (a_cons (e_c pe_int rint) a_nil)) (g_name (i := 8) sc_law_table.nd rfl (Or.inl rfl)) (ss_gc [8]
  (ss_one (s_if (t_cmp (op_eqX (hu65 hr)) p_eqX (e_call way_F T.ok_law_draw (hr.less (by decide)) (by rfl) T.g_law_draw T.k_law_draw T.b_law_draw tk (a_cons (e_var 0 (pv 0)) (a_cons (e_c pe_int rint) a_nil))) (e_c pe_int rint) (nomark _))
  (ss_one (s_setA (hu_of hr.toRoom) (e_call way_F T.ok_law_entry (hr.less (by decide)) (by rfl) T.g_law_entry T.k_law_entry T.b_law_entry tk (a_cons (e_var 0 (pv 0)) (a_cons (e_var 1 (pv 1)) a_nil))) (e_var 2 (pv 2)) (e_op op_add4 (p_add finN_V) (e_var 3 (pv 3)) (e_var 8 (pv 8)))))
  ss_nil)))))
  ss_nil)))))))))))
  (ss_one (s_ret (e_var 2 (pv 2))))))
theorem Tx.k_law_covered (T : Tx P w K mg base ca) : PySem.W.keepIn K (.ref T.f_law_covered) = true := T.F_law_covered.kp
theorem Tx.b_law_covered (T : Tx P w K mg base ca) : Binds K T.d_law_covered ["_law_a_table"] [] := T.F_law_covered.binds fun _ _ _ _ _ _ us hl => match us, hl with | [_], _ => rfl
theorem Tx.ok_law_covered (T : Tx P w K mg base ca) : FnG P w K mg base (L2.CX P w) 1 T.f_law_covered T.d_law_covered ["_law_a_table"] (spM (C.mk K ca) 1 m_law_covered) := by
  refine fn_okM (c := C.mk K ca) T.F_law_covered sc_law_covered fun cdv A outer s H E hr => ?_
  have tk := takes_of (X := cxOf (L2.CX P w) P w K mg base N_law_covered "_law_covered" (defScope s_law_covered) T.f_law_covered cdv A outer s H E) rfl rfl rfl rfl
  exact (ss_cons (s_set (i := 1) sc_law_covered.nd rfl (Or.inl rfl) e_dict)
  (ss_cons (s_for (passes_of rfl) rfl (i_dict (e_var 0 (pv 0))) (g_name (i := 2) sc_law_covered.nd rfl (Or.inl rfl)) (ss_gc [2, 3, 4, 5, 6]
  (ss_cons (s_asg (e_ixA (hu_of hr.toRoom) rfl (e_var 0 (pv 0)) (e_var 2 (pv 2)) (fun _ _ => rfl)) (g_tup rfl rfl (gs_cons (g_name (i := 3) sc_law_covered.nd rfl (Or.inl rfl)) (gs_cons (g_name (i := 4) sc_law_covered.nd rfl (Or.inl rfl)) (gs_cons (g_name (i := 5) sc_law_covered.nd rfl (Or.inl rfl)) gs_nil)))))
  (ss_one (s_for (passes_of rfl) rfl (i_range1 (by rfl) T.z_range (a_cons (e_ixA (hu_of hr.toRoom) rfl (e_lv (a_cons (e_c pe_int rint) (a_cons (e_c pe_int rint) a_nil))) (e_builtinTy call_int1 p_int (by rfl) T.z_int (by decide +kernel) (a_cons (e_cmp (op_eqX (hu65 hr)) p_eqX (e_var 3 (pv 3)) (e_c pe_str rstr) (nomark _)) a_nil)) (fun _ _ => rfl)) a_nil)) (g_name (i := 6) sc_law_covered.nd rfl (Or.inl rfl)) (ss_gc [6]
  (ss_one (s_setA (hu_of hr.toRoom) (e_tup (a_cons (e_op op_add4 (p_add finN_V) (e_var 4 (pv 4)) (e_var 6 (pv 6))) (a_cons (e_var 5 (pv 5)) a_nil))) (e_var 1 (pv 1)) (e_op op_add4 (p_add finN_V) (e_var 2 (pv 2)) (e_var 6 (pv 6)))))))))))
  (ss_one (s_ret (e_var 1 (pv 1))))))
theorem Tx.k_law_pool (T : Tx P w K mg base ca) : PySem.W.keepIn K (.ref T.f_law_pool) = true := T.F_law_pool.kp
theorem Tx.b_law_pool (T : Tx P w K mg base ca) : Binds K T.d_law_pool ["_law_script", "_law_k"] [] := T.F_law_pool.binds fun _ _ _ _ _ _ us hl => match us, hl with | [_, _], _ => rfl
theorem Tx.ok_law_pool (T : Tx P w K mg base ca) : FnG P w K mg base (L2.CX P w) 1 T.f_law_pool T.d_law_pool ["_law_script", "_law_k"] (spM (C.mk K ca) 2 m_law_pool) := by
  refine fn_okM (c := C.mk K ca) T.F_law_pool sc_law_pool fun cdv A outer s H E hr => ?_
  have tk := takes_of (X := cxOf (L2.CX P w) P w K mg base N_law_pool "_law_pool" (defScope s_law_pool) T.f_law_pool cdv A outer s H E) rfl rfl rfl rfl
  exact (ss_cons (s_set (i := 2) sc_law_pool.nd rfl (Or.inl rfl) (e_c pe_int rint))
  (ss_cons (s_if (t_cmp op_lt p_lt (e_var 1 (pv 1)) (e_builtin call_len p_len (by rfl) T.z_len (by decide +kernel) (a_cons (e_var 0 (pv 0)) a_nil)) (nomark _))
  (ss_one (s_set (i := 2) sc_law_pool.nd rfl (Or.inl rfl) (e_ixA (hu_of hr.toRoom) rfl (e_var 0 (pv 0)) (e_var 1 (pv 1)) (fun _ _ => rfl))))
  ss_nil)
  (ss_cons (s_set (i := 3) sc_law_pool.nd rfl (Or.inl rfl) (e_builtin (call_max2 rfl) p_max (by rfl) T.z_max (by decide +kernel) (a_cons (e_var 2 (pv 2)) (a_cons (e_op op_sub p_sub (e_un un_neg p_neg (e_c pe_int rint)) (e_var 2 (pv 2))) a_nil))))
  (ss_cons (s_set (i := 4) sc_law_pool.nd rfl (Or.inl rfl) (e_op op_mod p_mod (e_op op_mulA (p_mulA finN_V) (e_op op_add4 (p_add finN_V) (e_op op_add4 (p_add finN_V) (e_op op_add4 (p_add finN_V) (e_op op_mod p_mod (e_var 3 (pv 3)) (e_c pe_int rint)) (e_op op_mulA (p_mulA finN_V) (e_op op_mulA (p_mulA finN_V) (e_c pe_int rint) (e_var 1 (pv 1))) (e_var 1 (pv 1)))) (e_op op_mulA (p_mulA finN_V) (e_c pe_int rint) (e_var 1 (pv 1)))) (e_c pe_int rint)) (e_c pe_int rint)) (e_c pe_int rint)))
  (ss_one (s_ret (e_lst (a_cons (e_op op_mulA (p_mulA finN_V) (e_var 3 (pv 3)) (e_builtinTy call_int1 p_int (by rfl) T.z_int (by decide +kernel) (a_cons (e_cmp op_ge p_ge (e_var 3 (pv 3)) (e_op op_pow p_pow (e_c pe_int rint) (e_c pe_int rint)) (nomark _)) a_nil))) (a_cons (e_var 4 (pv 4)) a_nil)))))))))
theorem Tx.k_law_other (T : Tx P w K mg base ca) : PySem.W.keepIn K (.ref T.f_law_other) = true := T.F_law_other.kp
theorem Tx.b_law_other (T : Tx P w K mg base ca) : Binds K T.d_law_other ["_law_pool_here", "_law_a_table", "_law_size"] [] := T.F_law_other.binds fun _ _ _ _ _ _ us hl => match us, hl with | [_, _, _], _ => rfl
theorem Tx.ok_law_other (T : Tx P w K mg base ca) : FnG P w K mg base (L2.CX P w) 4 T.f_law_other T.d_law_other ["_law_pool_here", "_law_a_table", "_law_size"] (spM (C.mk K ca) 3 m_law_other) := by
  refine fn_okM (c := C.mk K ca) T.F_law_other sc_law_other fun cdv A outer s H E hr => ?_
  have tk := takes_of (X := cxOf (L2.CX P w) P w K mg base N_law_other "_law_other" (defScope s_law_other) T.f_law_other cdv A outer s H E) rfl rfl rfl rfl
  exact (ss_cons (s_set (i := 3) sc_law_other.nd rfl (Or.inl rfl) (e_builtinTy call_dictD (p_dict1 finND_R) (by rfl) T.z_dict (by decide +kernel) (a_cons (e_var 1 (pv 1)) a_nil)))
  (ss_cons (s_set (i := 4) sc_law_other.nd rfl (Or.inl rfl) (e_call way_F T.ok_law_draw (hr.less (by decide)) (by rfl) T.g_law_draw T.k_law_draw T.b_law_draw tk (a_cons (e_var 0 (pv 0)) (a_cons (e_c pe_int rint) a_nil))))
  (ss_cons (s_for (passes_of rfl) rfl (i_dict (e_var 1 (pv 1))) (g_name (i := 5) sc_law_other.nd rfl (Or.inr rfl)) (ss_gc [5, 6, 7, 8]
  (ss_cons (s_asg (e_ixA (hu_of hr.toRoom) rfl (e_var 1 (pv 1)) (e_var 5 (pv 5)) (fun _ _ => rfl)) (g_tup rfl rfl (gs_cons (g_name (i := 6) sc_law_other.nd rfl (Or.inl rfl)) (gs_cons (g_name (i := 7) sc_law_other.nd rfl (Or.inr rfl)) (gs_cons (g_name (i := 8) sc_law_other.nd rfl (Or.inr rfl)) gs_nil)))))
  (ss_one (s_if (PW.pt (w_and (t_cmp (op_eqX (hu65 hr)) p_eqX (e_var 6 (pv 6)) (e_c pe_str rstr) (nomark _)) (w_one1 (t_cmp op_lt p_lt (e_var 4 (pv 4)) (e_c pe_int rint) (nomark _)))))
  (ss_one (s_expr (e_methD PySem.F.slot_dict_update PySem.F.type_dict_update (mtd_update rfl) p_dupd (e_var 3 (pv 3)) (a_cons (e_lc (own := [("_law_more", 10)]) finV fin_V rfl sc_law_other.nd  (i_range1 (by rfl) T.z_range (a_cons (e_c pe_int rint) a_nil)) (blkOk_by (own := [("_law_more", 10)]) (N := N_law_other) (sc := defScope s_law_other) (by decide +kernel)) (rd_name (by decide)) (fun _ _ _ _ _ => (pg_name (i := 10) sc_law_other.nd rfl (Or.inl rfl))) (fun _ _ _ _ _ => pts0) (fun _ _ _ _ _ => (e_tup (a_cons (e_op op_add4 (p_add finN_V) (e_var 5 (pv 5)) (e_var 10 (pv 10))) (a_cons (e_tup (a_cons (e_c pe_str rstr) (a_cons (e_op op_add4 (p_add finN_V) (e_var 7 (pv 7)) (e_var 10 (pv 10))) (a_cons (e_var 8 (pv 8)) a_nil)))) a_nil))))) a_nil))))
  ss_nil)))))
  (ss_cons (s_for (passes_of rfl) rfl (i_range3 (by rfl) T.z_range (a_cons (e_c pe_int rint) (a_cons (e_c pe_int rint) (a_cons (e_c pe_int rint) a_nil)))) (g_name (i := 9) sc_law_other.nd rfl (Or.inl rfl)) (ss_gc [9]
  (ss_one (s_if (PW.pt (w_and (t_cmp (op_eqX (hu65 hr)) p_eqX (e_var 4 (pv 4)) (e_c pe_int rint) (nomark _)) (w_one1 (t_tru (e_call way_F T.ok_law_fits (hr.less (by decide)) (by rfl) T.g_law_fits T.k_law_fits T.b_law_fits tk (a_cons (e_var 1 (pv 1)) (a_cons (e_var 9 (pv 9)) a_nil)))))))
  (ss_cons (s_for (passes_of rfl) rfl (i_range1 (by rfl) T.z_range (a_cons (e_c pe_int rint) a_nil)) (g_name (i := 10) sc_law_other.nd rfl (Or.inl rfl)) (ss_gc [10]
  (ss_one (s_expr (e_dpop1 (e_var 3 (pv 3)) (e_op op_add4 (p_add finN_V) (e_var 9 (pv 9)) (e_var 10 (pv 10))) ⟨rfl, rfl, rfl, rfl⟩)))))
  (ss_one (s_setA (hu_of hr.toRoom) (e_tup (a_cons (e_c pe_str rstr) (a_cons (e_ixA (hu_of hr.toRoom) rfl (e_ixA (hu_of hr.toRoom) rfl (e_var 1 (pv 1)) (e_var 9 (pv 9)) (fun _ _ => rfl)) (e_c pe_int rint) (fun _ _ => rfl)) (a_cons (e_ixA (hu_of hr.toRoom) rfl (e_ixA (hu_of hr.toRoom) rfl (e_var 1 (pv 1)) (e_var 9 (pv 9)) (fun _ _ => rfl)) (e_c pe_int rint) (fun _ _ => rfl)) a_nil)))) (e_var 3 (pv 3)) (e_var 9 (pv 9)))))
  ss_nil))))
  (ss_cons (s_if (PW.pt (w_and (t_cmp (op_eqX (hu65 hr)) p_eqX (e_var 4 (pv 4)) (e_c pe_int rint) (nomark _)) (w_one1 (t_cmp (op_neX (hu65 hr)) p_neX (e_var 3 (pv 3)) e_dictV (nomark _)))))
  (ss_cons (s_set (i := 5) sc_law_other.nd rfl (Or.inr rfl) (e_ixA (hu_of hr.toRoom) rfl (e_builtin (cr_sortB rfl) (p_sortA finN_V) (by rfl) T.z_sorted (by decide +kernel) (a_cons (e_var 3 (pv 3)) a_nil)) (e_call way_F T.ok_law_draw (hr.less (by decide)) (by rfl) T.g_law_draw T.k_law_draw T.b_law_draw tk (a_cons (e_var 0 (pv 0)) (a_cons (e_builtin call_lenD p_lenD (by rfl) T.z_len (by decide +kernel) (a_cons (e_var 3 (pv 3)) a_nil)) a_nil))) (fun _ _ => rfl)))
  (ss_one (s_setA (hu_of hr.toRoom) (e_tup (a_cons (e_ixA (hu_of hr.toRoom) rfl (e_ixA (hu_of hr.toRoom) rfl (e_var 3 (pv 3)) (e_var 5 (pv 5)) (fun _ _ => rfl)) (e_c pe_int rint) (fun _ _ => rfl)) (a_cons (e_ixA (hu_of hr.toRoom) rfl (e_ixA (hu_of hr.toRoom) rfl (e_var 3 (pv 3)) (e_var 5 (pv 5)) (fun _ _ => rfl)) (e_c pe_int rint) (fun _ _ => rfl)) (a_cons (e_ixA (hu_of hr.toRoom) rfl (e_lv (a_cons (e_c pe_str rstr) (a_cons (e_c pe_str rstr) a_nil))) (e_call way_F T.ok_law_draw (hr.less (by decide)) (by rfl) T.g_law_draw T.k_law_draw T.b_law_draw tk (a_cons (e_var 0 (pv 0)) (a_cons (e_c pe_int rint) a_nil))) (fun _ _ => rfl)) a_nil)))) (e_var 3 (pv 3)) (e_var 5 (pv 5)))))
  ss_nil)
  (ss_one (s_ret (e_ixA (hu_of hr.toRoom) rfl (e_lv (a_cons (e_var 3 (pv 3)) (a_cons (e_call way_F T.ok_law_table (hr.less (by decide)) (by rfl) T.g_law_table T.k_law_table T.b_law_table tk (a_cons (e_var 0 (pv 0)) (a_cons (e_var 2 (pv 2)) a_nil))) a_nil))) (e_builtinTy call_int1 p_int (by rfl) T.z_int (by decide +kernel) (a_cons (e_and (e_cmp (op_eqX (hu65 hr)) p_eqX (e_var 4 (pv 4)) (e_c pe_int rint) (nomark _)) (e_one (e_cmp (op_eqX (hu65 hr)) p_eqX (e_call way_F T.ok_law_draw (hr.less (by decide)) (by rfl) T.g_law_draw T.k_law_draw T.b_law_draw tk (a_cons (e_var 0 (pv 0)) (a_cons (e_c pe_int rint) a_nil))) (e_c pe_int rint) (nomark _)))) a_nil)) (fun _ _ => rfl)))))))))
theorem Tx.k_law_right (T : Tx P w K mg base ca) : PySem.W.keepIn K (.ref T.f_law_right) = true := T.F_law_right.kp
theorem Tx.b_law_right (T : Tx P w K mg base ca) : Binds K T.d_law_right ["_law_a_table"] [] := T.F_law_right.binds fun _ _ _ _ _ _ us hl => match us, hl with | [_], _ => rfl
theorem Tx.ok_law_right (T : Tx P w K mg base ca) : FnG P w K mg base (L2.CX P w) 3 T.f_law_right T.d_law_right ["_law_a_table"] (spM (C.mk K ca) 1 m_law_right) := by
  refine fn_okM (c := C.mk K ca) T.F_law_right sc_law_right fun cdv A outer s H E hr => ?_
  have tk := takes_of (X := cxOf (L2.CX P w) P w K mg base N_law_right "_law_right" (defScope s_law_right) T.f_law_right cdv A outer s H E) rfl rfl rfl rfl
  exact (ss_cons (s_set (i := 1) sc_law_right.nd rfl (Or.inl rfl) (e_builtin (cr_reprA hr.gd (hu65 hr)) p_reprA (by rfl) T.z_repr (by decide +kernel) (a_cons (e_var 0 (pv 0)) a_nil)))
  (ss_cons (s_set (i := 2) sc_law_right.nd rfl (Or.inl rfl) (e_tup (a_cons (e_call way_F T.ok_law_covered (hr.less (by decide)) (by rfl) T.g_law_covered T.k_law_covered T.b_law_covered tk (a_cons (e_var 0 (pv 0)) a_nil)) (a_cons (e_lc (own := [("_law_first", 5)]) finV fin_V rfl sc_law_right.nd  (i_range3 (by rfl) T.z_range (a_cons (e_c pe_int rint) (a_cons (e_c pe_int rint) (a_cons (e_c pe_int rint) a_nil)))) (blkOk_by (own := [("_law_first", 5)]) (N := N_law_right) (sc := defScope s_law_right) (by decide +kernel)) (rd_name (by decide)) (fun _ _ _ _ _ => (pg_name (i := 5) sc_law_right.nd rfl (Or.inl rfl))) (fun _ _ _ _ _ => (pts1 (t_tru (e_call way_F T.ok_law_fits (hr.less (by decide)) (by rfl) T.g_law_fits T.k_law_fits T.b_law_fits takes0 (a_cons (e_var 0 (pv 0)) (a_cons (e_var 5 (pv 5)) a_nil)))))) (fun _ _ _ _ _ => (e_var 5 (pv 5)))) a_nil))))
  (ss_cons (s_for (passes_of rfl) rfl (i_range1 (by rfl) T.z_range (a_cons (e_c pe_int rint) a_nil)) (g_name (i := 3) sc_law_right.nd rfl (Or.inl rfl)) (ss_gc [3, 4]
  (ss_cons (s_set (i := 4) sc_law_right.nd rfl (Or.inl rfl) (e_tup (a_cons (e_call way_R T.ok_covered (hr.less (by decide)) (by rfl) T.g_covered T.k_covered T.b_covered tk (a_cons (e_var 0 (pv 0)) a_nil)) (a_cons (e_call way_R T.ok_can_be_great (hr.less (by decide)) (by rfl) T.g_can_be_great T.k_can_be_great T.b_can_be_great tk (a_cons (e_var 0 (pv 0)) a_nil)) a_nil))))
  (ss_cons (s_if (PW.pt (w_or (t_cmp (op_neXT (hu67 hr)) p_neXT (e_var 4 (pv 4)) (e_var 2 (pv 2)) (nomark _)) (w_one2 (t_cmp (op_neXT (hu67 hr)) p_neXT (e_builtin (cr_reprA hr.gd (hu65 hr)) p_reprA (by rfl) T.z_repr (by decide +kernel) (a_cons (e_var 0 (pv 0)) a_nil)) (e_var 1 (pv 1)) (nomark _)))))
  (ss_one (s_ret (e_c pe_bl rbl)))
  ss_nil)
  (ss_cons (s_expr (e_methD0 PySem.F.slot_dict_clear PySem.F.type_dict_clear mtd_clear p_dclear (e_ixA (hu_of hr.toRoom) rfl (e_var 4 (pv 4)) (e_c pe_int rint) (fun _ _ => rfl))))
  (ss_one (s_expr (e_methL rfl PySem.F.slot_list_append PySem.F.type_list_append mt_append p_append (e_ixA (hu_of hr.toRoom) rfl (e_var 4 (pv 4)) (e_c pe_int rint) (fun _ _ => rfl)) (a_cons (e_c pe_non rnon) a_nil)))))))))
  (ss_one (s_ret (e_cmp (op_eqXT (hu67 hr)) p_eqXT (e_tup (a_cons (e_callK0 g_kb_covered_0 way_F T.ok_covered (hr.less (by decide)) (by rfl) T.g_covered T.k_covered T.kb_covered_0 r_kb_covered_0 tk (k_cons (e_var 0 (pv 0)) k_nil)) (a_cons (e_callK0 g_kb_can_be_great_0 way_F T.ok_can_be_great (hr.less (by decide)) (by rfl) T.g_can_be_great T.k_can_be_great T.kb_can_be_great_0 r_kb_can_be_great_0 tk (k_cons (e_var 0 (pv 0)) k_nil)) a_nil))) (e_var 2 (pv 2)) (nomark _)))))))
theorem Tx.k_law (T : Tx P w K mg base ca) : PySem.W.keepIn K (.ref T.f_law) = true := T.F_law.kp
theorem Tx.b_law (T : Tx P w K mg base ca) : Binds K T.d_law ["_law_script"] [] := T.F_law.binds fun _ _ _ _ _ _ us hl => match us, hl with | [_], _ => rfl
theorem Tx.ok_law (T : Tx P w K mg base ca) : FnG P w K mg base (L2.CX P w) 5 T.f_law T.d_law ["_law_script"] (spM (C.mk K ca) 1 m_law) := by
  refine fn_okM (c := C.mk K ca) T.F_law sc_law fun cdv A outer s H E hr => ?_
  have tk := takes_of (X := cxOf (L2.CX P w) P w K mg base N_law "law" (defScope s_law) T.f_law cdv A outer s H E) rfl rfl rfl rfl
  exact (ss_cons (s_for (passes_of rfl) rfl (i_range1 (by rfl) T.z_range (a_cons (e_builtin (call_max2 rfl) p_max (by rfl) T.z_max (by decide +kernel) (a_cons (e_c pe_int rint) (a_cons (e_builtin (call_min2 rfl) p_min (by rfl) T.z_min (by decide +kernel) (a_cons (e_builtin call_len p_len (by rfl) T.z_len (by decide +kernel) (a_cons (e_var 0 (pv 0)) a_nil)) (a_cons (e_c pe_int rint) a_nil))) a_nil))) a_nil)) (g_name (i := 1) sc_law.nd rfl (Or.inl rfl)) (ss_gc [1, 2, 3, 4, 5, 6, 7, 8]
  (ss_cons (s_set (i := 2) sc_law.nd rfl (Or.inl rfl) (e_call way_R T.ok_law_pool (hr.less (by decide)) (by rfl) T.g_law_pool T.k_law_pool T.b_law_pool tk (a_cons (e_var 0 (pv 0)) (a_cons (e_var 1 (pv 1)) a_nil))))
  (ss_cons (s_set (i := 3) sc_law.nd rfl (Or.inl rfl) (e_op op_mulA (p_mulA finN_V) (e_c pe_int rint) (e_op op_add4 (p_add finN_V) (e_c pe_int rint) (e_call way_F T.ok_law_draw (hr.less (by decide)) (by rfl) T.g_law_draw T.k_law_draw T.b_law_draw tk (a_cons (e_var 2 (pv 2)) (a_cons (e_c pe_int rint) a_nil))))))
  (ss_cons (s_set (i := 4) sc_law.nd rfl (Or.inr rfl) (e_call way_F T.ok_law_table (hr.less (by decide)) (by rfl) T.g_law_table T.k_law_table T.b_law_table tk (a_cons (e_var 2 (pv 2)) (a_cons (e_var 3 (pv 3)) a_nil))))
  (ss_cons (s_set (i := 5) sc_law.nd rfl (Or.inl rfl) (e_call way_F T.ok_law_other (hr.less (by decide)) (by rfl) T.g_law_other T.k_law_other T.b_law_other tk (a_cons (e_var 2 (pv 2)) (a_cons (e_var 4 (pv 4)) (a_cons (e_var 3 (pv 3)) a_nil)))))
  (ss_cons (s_if (PW.pt (w_or (t_not (t_tru (e_call way_F T.ok_law_right (hr.less (by decide)) (by rfl) T.g_law_right T.k_law_right T.b_law_right tk (a_cons (e_var 4 (pv 4)) a_nil)))) (w_one2 (t_not (t_tru (e_call way_F T.ok_law_right (hr.less (by decide)) (by rfl) T.g_law_right T.k_law_right T.b_law_right tk (a_cons (e_var 5 (pv 5)) a_nil)))))))
  (ss_one (s_ret (e_c pe_bl rbl)))
  ss_nil)
  (ss_cons (s_set (i := 6) sc_law.nd rfl (Or.inl rfl) (e_cmp (op_eqX (hu65 hr)) p_eqX (e_call way_F T.ok_law_covered (hr.less (by decide)) (by rfl) T.g_law_covered T.k_law_covered T.b_law_covered tk (a_cons (e_var 4 (pv 4)) a_nil)) (e_call way_F T.ok_law_covered (hr.less (by decide)) (by rfl) T.g_law_covered T.k_law_covered T.b_law_covered tk (a_cons (e_var 5 (pv 5)) a_nil)) (nomark _)))
  (ss_cons (s_set (i := 7) sc_law.nd rfl (Or.inl rfl) (e_lv (a_cons (e_call way_F T.ok_same_said (hr.less (by decide)) (by rfl) T.g_same_said T.k_same_said T.b_same_said tk (a_cons (e_var 4 (pv 4)) (a_cons (e_var 5 (pv 5)) a_nil))) (a_cons (e_callK0 g_kb_same_said_10 way_F T.ok_same_said (hr.less (by decide)) (by rfl) T.g_same_said T.k_same_said T.kb_same_said_10 r_kb_same_said_10 tk (k_cons (e_var 4 (pv 4)) (k_cons (e_var 5 (pv 5)) k_nil))) a_nil))))
  (ss_cons (s_if (t_cmp (op_neX (hu65 hr)) p_neX (e_builtin (cr_repr hr.gd (hu65 hr)) p_repr (by rfl) T.z_repr (by decide +kernel) (a_cons (e_var 7 (pv 7)) a_nil)) (e_builtin (cr_repr hr.gd (hu65 hr)) p_repr (by rfl) T.z_repr (by decide +kernel) (a_cons (e_op op_mulA (p_mulA finN_V) (e_lv (a_cons (e_var 6 (pv 6)) a_nil)) (e_c pe_int rint)) a_nil)) (nomark _))
  (ss_one (s_ret (e_c pe_bl rbl)))
  ss_nil)
  (ss_cons (s_set (i := 8) sc_law.nd rfl (Or.inl rfl) (e_builtinTy (call_dictP rfl) (p_dictP finND_V) (by rfl) T.z_dict (by decide +kernel) (a_cons (e_lc (own := [("_law_address", 9)]) finV fin_V rfl sc_law.nd  (i_list rfl (e_rev finN_V rfl (e_builtin (cr_sortB rfl) (p_sortA finN_V) (by rfl) T.z_sorted (by decide +kernel) (a_cons (e_var 4 (pv 4)) a_nil)))) (blkOk_by (own := [("_law_address", 9)]) (N := N_law) (sc := defScope s_law) (by decide +kernel)) (rd_name (by decide)) (fun _ _ _ _ _ => (pg_name (i := 9) sc_law.nd rfl (Or.inl rfl))) (fun _ _ _ _ _ => pts0) (fun _ _ _ _ _ => (e_tup (a_cons (e_var 9 (pv 9)) (a_cons (e_ixA (hu_of hr.toRoom) rfl (e_var 4 (pv 4)) (e_var 9 (pv 9)) (fun _ _ => rfl)) a_nil))))) a_nil)))
  (ss_one (s_if (PW.pt (w_or (t_cmp op_isNotA p_isnot (e_call way_F T.ok_same_said (hr.less (by decide)) (by rfl) T.g_same_said T.k_same_said T.b_same_said tk (a_cons (e_var 4 (pv 4)) (a_cons (e_var 8 (pv 8)) a_nil))) (e_c pe_bl rbl) (nomark _)) (w_one2 (t_cmp (op_neX (hu65 hr)) p_neX (e_call way_F T.ok_can_be_great (hr.less (by decide)) (by rfl) T.g_can_be_great T.k_can_be_great T.b_can_be_great tk (a_cons (e_var 8 (pv 8)) a_nil)) (e_call way_F T.ok_can_be_great (hr.less (by decide)) (by rfl) T.g_can_be_great T.k_can_be_great T.b_can_be_great tk (a_cons (e_var 4 (pv 4)) a_nil)) (nomark _)))))
  (ss_one (s_ret (e_c pe_bl rbl)))
  ss_nil)))))))))))))
  (ss_one (s_ret (e_and (e_cmp (op_eqX (hu65 hr)) p_eqX (e_call way_F T.ok_covered (hr.less (by decide)) (by rfl) T.g_covered T.k_covered T.b_covered tk (a_cons e_dictV a_nil)) e_dictV (nomark _)) (e_and (e_cmp (op_eqX (hu65 hr)) p_eqX (e_call way_F T.ok_can_be_great (hr.less (by decide)) (by rfl) T.g_can_be_great T.k_can_be_great T.b_can_be_great tk (a_cons e_dictV a_nil)) (e_lv a_nil) (nomark _)) (e_one (e_cmp op_isA p_is (e_call way_F T.ok_same_said (hr.less (by decide)) (by rfl) T.g_same_said T.k_same_said T.b_same_said tk (a_cons e_dictV (a_cons e_dictV a_nil))) (e_c pe_bl rbl) (nomark _))))))))
end
end MP

namespace MP
open PySem PySem.Spec PyProof.Rows L2
def tx_mk (P : Program) (w : World) (base : Heap) (ca : Nat → Addr) {K : PySem.W.Frag} {mg : Str → Option Value} {h : Heap} (X : K.In h) (G : h.Ns mainGlobals mg) {t_MOST_ADDRESS : Tok} {t_STRETCH : Tok} {f_parts_of : Addr} {oc_parts_of : Value} {kV_parts_of : Value} {dc_parts_of : Value} {pm_parts_of : Value} {cd_parts_of : Value} {ct_parts_of : Value} {od_parts_of an_parts_of : Option Addr} {sl_parts_of : Array (Option Value)} {f_covered : Addr} {oc_covered : Value} {kV_covered : Value} {dc_covered : Value} {pm_covered : Value} {cd_covered : Value} {ct_covered : Value} {od_covered an_covered : Option Addr} {sl_covered : Array (Option Value)} {f_same_said : Addr} {oc_same_said : Value} {kV_same_said : Value} {dc_same_said : Value} {pm_same_said : Value} {cd_same_said : Value} {ct_same_said : Value} {od_same_said an_same_said : Option Addr} {sl_same_said : Array (Option Value)} {f_fits_great : Addr} {oc_fits_great : Value} {kV_fits_great : Value} {dc_fits_great : Value} {pm_fits_great : Value} {cd_fits_great : Value} {ct_fits_great : Value} {od_fits_great an_fits_great : Option Addr} {sl_fits_great : Array (Option Value)} {f_can_be_great : Addr} {oc_can_be_great : Value} {kV_can_be_great : Value} {dc_can_be_great : Value} {pm_can_be_great : Value} {cd_can_be_great : Value} {ct_can_be_great : Value} {od_can_be_great an_can_be_great : Option Addr} {sl_can_be_great : Array (Option Value)} {f_law_draw : Addr} {oc_law_draw : Value} {kV_law_draw : Value} {dc_law_draw : Value} {pm_law_draw : Value} {cd_law_draw : Value} {ct_law_draw : Value} {od_law_draw an_law_draw : Option Addr} {sl_law_draw : Array (Option Value)} {f_law_fits : Addr} {oc_law_fits : Value} {kV_law_fits : Value} {dc_law_fits : Value} {pm_law_fits : Value} {cd_law_fits : Value} {ct_law_fits : Value} {od_law_fits an_law_fits : Option Addr} {sl_law_fits : Array (Option Value)} {f_law_entry : Addr} {oc_law_entry : Value} {kV_law_entry : Value} {dc_law_entry : Value} {pm_law_entry : Value} {cd_law_entry : Value} {ct_law_entry : Value} {od_law_entry an_law_entry : Option Addr} {sl_law_entry : Array (Option Value)} {f_law_table : Addr} {oc_law_table : Value} {kV_law_table : Value} {dc_law_table : Value} {pm_law_table : Value} {cd_law_table : Value} {ct_law_table : Value} {od_law_table an_law_table : Option Addr} {sl_law_table : Array (Option Value)} {f_law_covered : Addr} {oc_law_covered : Value} {kV_law_covered : Value} {dc_law_covered : Value} {pm_law_covered : Value} {cd_law_covered : Value} {ct_law_covered : Value} {od_law_covered an_law_covered : Option Addr} {sl_law_covered : Array (Option Value)} {f_law_pool : Addr} {oc_law_pool : Value} {kV_law_pool : Value} {dc_law_pool : Value} {pm_law_pool : Value} {cd_law_pool : Value} {ct_law_pool : Value} {od_law_pool an_law_pool : Option Addr} {sl_law_pool : Array (Option Value)} {f_law_other : Addr} {oc_law_other : Value} {kV_law_other : Value} {dc_law_other : Value} {pm_law_other : Value} {cd_law_other : Value} {ct_law_other : Value} {od_law_other an_law_other : Option Addr} {sl_law_other : Array (Option Value)} {f_law_right : Addr} {oc_law_right : Value} {kV_law_right : Value} {dc_law_right : Value} {pm_law_right : Value} {cd_law_right : Value} {ct_law_right : Value} {od_law_right an_law_right : Option Addr} {sl_law_right : Array (Option Value)} {f_law : Addr} {oc_law : Value} {kV_law : Value} {dc_law : Value} {pm_law : Value} {cd_law : Value} {ct_law : Value} {od_law an_law : Option Addr} {sl_law : Array (Option Value)}
  (z_all : PySem.W.nsIn K mainGlobals "all" = some none)
  (z_dict : PySem.W.nsIn K mainGlobals "dict" = some none)
  (z_enumerate : PySem.W.nsIn K mainGlobals "enumerate" = some none)
  (z_int : PySem.W.nsIn K mainGlobals "int" = some none)
  (z_len : PySem.W.nsIn K mainGlobals "len" = some none)
  (z_max : PySem.W.nsIn K mainGlobals "max" = some none)
  (z_min : PySem.W.nsIn K mainGlobals "min" = some none)
  (z_range : PySem.W.nsIn K mainGlobals "range" = some none)
  (z_repr : PySem.W.nsIn K mainGlobals "repr" = some none)
  (z_sorted : PySem.W.nsIn K mainGlobals "sorted" = some none)
  (x_MOST_ADDRESS : PySem.W.nsIn K mainGlobals "MOST_ADDRESS" = some (some (.int (31) t_MOST_ADDRESS)))
  (x_STRETCH : PySem.W.nsIn K mainGlobals "STRETCH" = some (some (.int (4) t_STRETCH)))
  (a_parts_of : PySem.W.nsIn K mainGlobals "parts_of" = some (some (.ref f_parts_of)))
  (l_parts_of : K.lookup f_parts_of = some ⟨oc_parts_of, od_parts_of, .func (PySem.W.fnOf "parts_of" "parts_of" (defArgs s_parts_of) (defBody s_parts_of) (defScope s_parts_of) .none kV_parts_of dc_parts_of pm_parts_of an_parts_of cd_parts_of ct_parts_of), sl_parts_of⟩)
  (c_parts_of : PySem.W.codeIn K cd_parts_of "parts_of" = true)
  (k_parts_of : PySem.W.keepIn K (.ref f_parts_of) = true)
  (a_covered : PySem.W.nsIn K mainGlobals "covered" = some (some (.ref f_covered)))
  (l_covered : K.lookup f_covered = some ⟨oc_covered, od_covered, .func (PySem.W.fnOf "covered" "covered" (defArgs s_covered) (defBody s_covered) (defScope s_covered) .none kV_covered dc_covered pm_covered an_covered cd_covered ct_covered), sl_covered⟩)
  (c_covered : PySem.W.codeIn K cd_covered "covered" = true)
  (k_covered : PySem.W.keepIn K (.ref f_covered) = true)
  (a_same_said : PySem.W.nsIn K mainGlobals "same_said" = some (some (.ref f_same_said)))
  (l_same_said : K.lookup f_same_said = some ⟨oc_same_said, od_same_said, .func (PySem.W.fnOf "same_said" "same_said" (defArgs s_same_said) (defBody s_same_said) (defScope s_same_said) .none kV_same_said dc_same_said pm_same_said an_same_said cd_same_said ct_same_said), sl_same_said⟩)
  (c_same_said : PySem.W.codeIn K cd_same_said "same_said" = true)
  (k_same_said : PySem.W.keepIn K (.ref f_same_said) = true)
  (a_fits_great : PySem.W.nsIn K mainGlobals "fits_great" = some (some (.ref f_fits_great)))
  (l_fits_great : K.lookup f_fits_great = some ⟨oc_fits_great, od_fits_great, .func (PySem.W.fnOf "fits_great" "fits_great" (defArgs s_fits_great) (defBody s_fits_great) (defScope s_fits_great) .none kV_fits_great dc_fits_great pm_fits_great an_fits_great cd_fits_great ct_fits_great), sl_fits_great⟩)
  (c_fits_great : PySem.W.codeIn K cd_fits_great "fits_great" = true)
  (k_fits_great : PySem.W.keepIn K (.ref f_fits_great) = true)
  (a_can_be_great : PySem.W.nsIn K mainGlobals "can_be_great" = some (some (.ref f_can_be_great)))
  (l_can_be_great : K.lookup f_can_be_great = some ⟨oc_can_be_great, od_can_be_great, .func (PySem.W.fnOf "can_be_great" "can_be_great" (defArgs s_can_be_great) (defBody s_can_be_great) (defScope s_can_be_great) .none kV_can_be_great dc_can_be_great pm_can_be_great an_can_be_great cd_can_be_great ct_can_be_great), sl_can_be_great⟩)
  (c_can_be_great : PySem.W.codeIn K cd_can_be_great "can_be_great" = true)
  (k_can_be_great : PySem.W.keepIn K (.ref f_can_be_great) = true)
  (a_law_draw : PySem.W.nsIn K mainGlobals "_law_draw" = some (some (.ref f_law_draw)))
  (l_law_draw : K.lookup f_law_draw = some ⟨oc_law_draw, od_law_draw, .func (PySem.W.fnOf "_law_draw" "_law_draw" (defArgs s_law_draw) (defBody s_law_draw) (defScope s_law_draw) .none kV_law_draw dc_law_draw pm_law_draw an_law_draw cd_law_draw ct_law_draw), sl_law_draw⟩)
  (c_law_draw : PySem.W.codeIn K cd_law_draw "_law_draw" = true)
  (k_law_draw : PySem.W.keepIn K (.ref f_law_draw) = true)
  (a_law_fits : PySem.W.nsIn K mainGlobals "_law_fits" = some (some (.ref f_law_fits)))
  (l_law_fits : K.lookup f_law_fits = some ⟨oc_law_fits, od_law_fits, .func (PySem.W.fnOf "_law_fits" "_law_fits" (defArgs s_law_fits) (defBody s_law_fits) (defScope s_law_fits) .none kV_law_fits dc_law_fits pm_law_fits an_law_fits cd_law_fits ct_law_fits), sl_law_fits⟩)
  (c_law_fits : PySem.W.codeIn K cd_law_fits "_law_fits" = true)
  (k_law_fits : PySem.W.keepIn K (.ref f_law_fits) = true)
  (a_law_entry : PySem.W.nsIn K mainGlobals "_law_entry" = some (some (.ref f_law_entry)))
  (l_law_entry : K.lookup f_law_entry = some ⟨oc_law_entry, od_law_entry, .func (PySem.W.fnOf "_law_entry" "_law_entry" (defArgs s_law_entry) (defBody s_law_entry) (defScope s_law_entry) .none kV_law_entry dc_law_entry pm_law_entry an_law_entry cd_law_entry ct_law_entry), sl_law_entry⟩)
  (c_law_entry : PySem.W.codeIn K cd_law_entry "_law_entry" = true)
  (k_law_entry : PySem.W.keepIn K (.ref f_law_entry) = true)
  (a_law_table : PySem.W.nsIn K mainGlobals "_law_table" = some (some (.ref f_law_table)))
  (l_law_table : K.lookup f_law_table = some ⟨oc_law_table, od_law_table, .func (PySem.W.fnOf "_law_table" "_law_table" (defArgs s_law_table) (defBody s_law_table) (defScope s_law_table) .none kV_law_table dc_law_table pm_law_table an_law_table cd_law_table ct_law_table), sl_law_table⟩)
  (c_law_table : PySem.W.codeIn K cd_law_table "_law_table" = true)
  (k_law_table : PySem.W.keepIn K (.ref f_law_table) = true)
  (a_law_covered : PySem.W.nsIn K mainGlobals "_law_covered" = some (some (.ref f_law_covered)))
  (l_law_covered : K.lookup f_law_covered = some ⟨oc_law_covered, od_law_covered, .func (PySem.W.fnOf "_law_covered" "_law_covered" (defArgs s_law_covered) (defBody s_law_covered) (defScope s_law_covered) .none kV_law_covered dc_law_covered pm_law_covered an_law_covered cd_law_covered ct_law_covered), sl_law_covered⟩)
  (c_law_covered : PySem.W.codeIn K cd_law_covered "_law_covered" = true)
  (k_law_covered : PySem.W.keepIn K (.ref f_law_covered) = true)
  (a_law_pool : PySem.W.nsIn K mainGlobals "_law_pool" = some (some (.ref f_law_pool)))
  (l_law_pool : K.lookup f_law_pool = some ⟨oc_law_pool, od_law_pool, .func (PySem.W.fnOf "_law_pool" "_law_pool" (defArgs s_law_pool) (defBody s_law_pool) (defScope s_law_pool) .none kV_law_pool dc_law_pool pm_law_pool an_law_pool cd_law_pool ct_law_pool), sl_law_pool⟩)
  (c_law_pool : PySem.W.codeIn K cd_law_pool "_law_pool" = true)
  (k_law_pool : PySem.W.keepIn K (.ref f_law_pool) = true)
  (a_law_other : PySem.W.nsIn K mainGlobals "_law_other" = some (some (.ref f_law_other)))
  (l_law_other : K.lookup f_law_other = some ⟨oc_law_other, od_law_other, .func (PySem.W.fnOf "_law_other" "_law_other" (defArgs s_law_other) (defBody s_law_other) (defScope s_law_other) .none kV_law_other dc_law_other pm_law_other an_law_other cd_law_other ct_law_other), sl_law_other⟩)
  (c_law_other : PySem.W.codeIn K cd_law_other "_law_other" = true)
  (k_law_other : PySem.W.keepIn K (.ref f_law_other) = true)
  (a_law_right : PySem.W.nsIn K mainGlobals "_law_right" = some (some (.ref f_law_right)))
  (l_law_right : K.lookup f_law_right = some ⟨oc_law_right, od_law_right, .func (PySem.W.fnOf "_law_right" "_law_right" (defArgs s_law_right) (defBody s_law_right) (defScope s_law_right) .none kV_law_right dc_law_right pm_law_right an_law_right cd_law_right ct_law_right), sl_law_right⟩)
  (c_law_right : PySem.W.codeIn K cd_law_right "_law_right" = true)
  (k_law_right : PySem.W.keepIn K (.ref f_law_right) = true)
  (a_law : PySem.W.nsIn K mainGlobals "law" = some (some (.ref f_law)))
  (l_law : K.lookup f_law = some ⟨oc_law, od_law, .func (PySem.W.fnOf "law" "law" (defArgs s_law) (defBody s_law) (defScope s_law) .none kV_law dc_law pm_law an_law cd_law ct_law), sl_law⟩)
  (c_law : PySem.W.codeIn K cd_law "law" = true)
  (k_law : PySem.W.keepIn K (.ref f_law) = true) : Tx P w K mg base ca where
  unit := trivial
  z_all := PySem.W.mg_none_of X G z_all
  z_dict := PySem.W.mg_none_of X G z_dict
  z_enumerate := PySem.W.mg_none_of X G z_enumerate
  z_int := PySem.W.mg_none_of X G z_int
  z_len := PySem.W.mg_none_of X G z_len
  z_max := PySem.W.mg_none_of X G z_max
  z_min := PySem.W.mg_none_of X G z_min
  z_range := PySem.W.mg_none_of X G z_range
  z_repr := PySem.W.mg_none_of X G z_repr
  z_sorted := PySem.W.mg_none_of X G z_sorted
  w_MOST_ADDRESS := .int (31)
  r_MOST_ADDRESS := rint
  v_MOST_ADDRESS := ⟨_, PySem.W.mg_of X G x_MOST_ADDRESS, ⟨_, rfl⟩⟩
  w_STRETCH := .int (4)
  r_STRETCH := rint
  v_STRETCH := ⟨_, PySem.W.mg_of X G x_STRETCH, ⟨_, rfl⟩⟩
  f_parts_of := f_parts_of
  d_parts_of := _
  F_parts_of := fun_mk (st := s_parts_of) l_parts_of c_parts_of k_parts_of
  g_parts_of := PySem.W.mg_of X G a_parts_of
  f_covered := f_covered
  d_covered := _
  F_covered := fun_mk (st := s_covered) l_covered c_covered k_covered
  g_covered := PySem.W.mg_of X G a_covered
  f_same_said := f_same_said
  d_same_said := _
  F_same_said := fun_mk (st := s_same_said) l_same_said c_same_said k_same_said
  g_same_said := PySem.W.mg_of X G a_same_said
  f_fits_great := f_fits_great
  d_fits_great := _
  F_fits_great := fun_mk (st := s_fits_great) l_fits_great c_fits_great k_fits_great
  g_fits_great := PySem.W.mg_of X G a_fits_great
  f_can_be_great := f_can_be_great
  d_can_be_great := _
  F_can_be_great := fun_mk (st := s_can_be_great) l_can_be_great c_can_be_great k_can_be_great
  g_can_be_great := PySem.W.mg_of X G a_can_be_great
  f_law_draw := f_law_draw
  d_law_draw := _
  F_law_draw := fun_mk (st := s_law_draw) l_law_draw c_law_draw k_law_draw
  g_law_draw := PySem.W.mg_of X G a_law_draw
  f_law_fits := f_law_fits
  d_law_fits := _
  F_law_fits := fun_mk (st := s_law_fits) l_law_fits c_law_fits k_law_fits
  g_law_fits := PySem.W.mg_of X G a_law_fits
  f_law_entry := f_law_entry
  d_law_entry := _
  F_law_entry := fun_mk (st := s_law_entry) l_law_entry c_law_entry k_law_entry
  g_law_entry := PySem.W.mg_of X G a_law_entry
  f_law_table := f_law_table
  d_law_table := _
  F_law_table := fun_mk (st := s_law_table) l_law_table c_law_table k_law_table
  g_law_table := PySem.W.mg_of X G a_law_table
  f_law_covered := f_law_covered
  d_law_covered := _
  F_law_covered := fun_mk (st := s_law_covered) l_law_covered c_law_covered k_law_covered
  g_law_covered := PySem.W.mg_of X G a_law_covered
  f_law_pool := f_law_pool
  d_law_pool := _
  F_law_pool := fun_mk (st := s_law_pool) l_law_pool c_law_pool k_law_pool
  g_law_pool := PySem.W.mg_of X G a_law_pool
  f_law_other := f_law_other
  d_law_other := _
  F_law_other := fun_mk (st := s_law_other) l_law_other c_law_other k_law_other
  g_law_other := PySem.W.mg_of X G a_law_other
  f_law_right := f_law_right
  d_law_right := _
  F_law_right := fun_mk (st := s_law_right) l_law_right c_law_right k_law_right
  g_law_right := PySem.W.mg_of X G a_law_right
  f_law := f_law
  d_law := _
  F_law := fun_mk (st := s_law) l_law c_law k_law
  g_law := PySem.W.mg_of X G a_law
theorem all_mk {P : Program} {w : World} {K : PySem.W.Frag} {mg : Str → Option Value} {fa : Addr} (hfa : mg "law" = some (.ref fa)) (T : ∀ base, Tx P w K mg base (fun _ => 0)) (hT : ∀ b b', (T b).f_law = (T b').f_law ∧ (T b).d_law = (T b').d_law) (hl : ∀ ns : List Int, ns.length ≤ 63 → ∃ h', m_law [.fz (ns.map .int)] [] = .ok (.bl true) h') : ∃ fd : FuncData, (∀ (s : Shared) (v : Value), BindsTo s fd ⟨[v], []⟩ [("_law_script", v)]) ∧ ∀ base : Heap, K.In base → base.Ns mainGlobals mg → FnG P w K mg base (L2.CX P w) 5 fa fd ["_law_script"] (spLaw K) := by
  have e : ∀ b, fa = (T b).f_law := fun b => by
    have := hfa.symm.trans (T b).g_law
    cases this
    rfl
  let b0 : Heap := default
  refine ⟨(T b0).d_law, fun s v => ?_, fun base _ _ => ?_⟩
  · obtain ⟨oc, od, kV, doc, pm, an, cdv, ct, osl, e, lk, hcd⟩ := (T b0).F_law.ex
    rw [e]
    exact .of_eq rfl
  · have h := law_end (c := C.mk K fun _ => 0) ((T base).ok_law) hl
    rw [(hT b0 base).2, e base]
    exact h
end MP
open PySem PySem.W PyProof.Rows
set_option maxHeartbeats 0 in
theorem PySem.Challenge.cw_greatframes_k12_what_tables_say_holds : PySem.Challenge.rw_greatframes_k12_what_tables_say.Holds := by
  w_on; o_law; k_head; (case hw => w_witness2)
  k_fill
  refine MP.walkM (l := PySem.Challenge.rw_greatframes_k12_what_tables_say) (k := 5) rfl rfl ⟨rfl, by decide, by decide⟩ (fun w h Y => PySem.W.kIn_of Y) ?F
  case F =>
    intro w mg fa h KX G hmg
    refine' MP.all_mk hmg (fun base => MP.tx_mk _ w base (fun _ => 0) KX G ?z_all ?z_dict ?z_enumerate ?z_int ?z_len ?z_max ?z_min ?z_range ?z_repr ?z_sorted ?x_MOST_ADDRESS ?x_STRETCH ?a_parts_of ?l_parts_of ?c_parts_of ?k_parts_of ?a_covered ?l_covered ?c_covered ?k_covered ?a_same_said ?l_same_said ?c_same_said ?k_same_said ?a_fits_great ?l_fits_great ?c_fits_great ?k_fits_great ?a_can_be_great ?l_can_be_great ?c_can_be_great ?k_can_be_great ?a_law_draw ?l_law_draw ?c_law_draw ?k_law_draw ?a_law_fits ?l_law_fits ?c_law_fits ?k_law_fits ?a_law_entry ?l_law_entry ?c_law_entry ?k_law_entry ?a_law_table ?l_law_table ?c_law_table ?k_law_table ?a_law_covered ?l_law_covered ?c_law_covered ?k_law_covered ?a_law_pool ?l_law_pool ?c_law_pool ?k_law_pool ?a_law_other ?l_law_other ?c_law_other ?k_law_other ?a_law_right ?l_law_right ?c_law_right ?k_law_right ?a_law ?l_law ?c_law ?k_law) (fun _ _ => ⟨rfl, rfl⟩) MP.law_all
    (case z_all => k_is)
    (case z_dict => k_is)
    (case z_enumerate => k_is)
    (case z_int => k_is)
    (case z_len => k_is)
    (case z_max => k_is)
    (case z_min => k_is)
    (case z_range => k_is)
    (case z_repr => k_is)
    (case z_sorted => k_is)
    (case x_MOST_ADDRESS => k_is)
    (case x_STRETCH => k_is)
    (case a_parts_of => k_is)
    (case l_parts_of => k_is)
    (case c_parts_of => k_is)
    (case k_parts_of => k_is)
    (case a_covered => k_is)
    (case l_covered => k_is)
    (case c_covered => k_is)
    (case k_covered => k_is)
    (case a_same_said => k_is)
    (case l_same_said => k_is)
    (case c_same_said => k_is)
    (case k_same_said => k_is)
    (case a_fits_great => k_is)
    (case l_fits_great => k_is)
    (case c_fits_great => k_is)
    (case k_fits_great => k_is)
    (case a_can_be_great => k_is)
    (case l_can_be_great => k_is)
    (case c_can_be_great => k_is)
    (case k_can_be_great => k_is)
    (case a_law_draw => k_is)
    (case l_law_draw => k_is)
    (case c_law_draw => k_is)
    (case k_law_draw => k_is)
    (case a_law_fits => k_is)
    (case l_law_fits => k_is)
    (case c_law_fits => k_is)
    (case k_law_fits => k_is)
    (case a_law_entry => k_is)
    (case l_law_entry => k_is)
    (case c_law_entry => k_is)
    (case k_law_entry => k_is)
    (case a_law_table => k_is)
    (case l_law_table => k_is)
    (case c_law_table => k_is)
    (case k_law_table => k_is)
    (case a_law_covered => k_is)
    (case l_law_covered => k_is)
    (case c_law_covered => k_is)
    (case k_law_covered => k_is)
    (case a_law_pool => k_is)
    (case l_law_pool => k_is)
    (case c_law_pool => k_is)
    (case k_law_pool => k_is)
    (case a_law_other => k_is)
    (case l_law_other => k_is)
    (case c_law_other => k_is)
    (case k_law_other => k_is)
    (case a_law_right => k_is)
    (case l_law_right => k_is)
    (case c_law_right => k_is)
    (case k_law_right => k_is)
    (case a_law => k_is)
    (case l_law => k_is)
    (case c_law => k_is)
    (case k_law => k_is)

