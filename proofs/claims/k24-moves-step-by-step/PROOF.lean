import PyProof.Rows.All
import HandS.ForMost
import HandS.WordsExc
import HandS.Flow
import HandS.Conv
import HandS.Style
import HandS.TupAny
import HandS.ExcCtx
import HandS.HotCalls
import HandS.IsInst
import HandS.SortInts
import HandS.TupLe
import HandS.Wide
import HandS.Codes
import HandS.SetBool
import HandS.TupSets
import HandS.Deep
import HandS.More
import HandS.Iter
import HandS.Small
import KE.DataMinMax
import KE.SortData
import HandS.NoneIn
import HandS.DictComp
import KE.KDictPairs
import HandS.Finally
import KE.KEqNest
import HandS.WordsDict
import HandS.ExcInit
import HandS.ExcField
import HandS.ExcIs
import KE.KExcIs
import KE.KDictCopyH
import KE.KDictWalk
import HandS.DictTup
import HandS.ListItems
import HandS.CallSlots
import HandS.Defaults
import KE.KDictSum
import HandS.TupLen
import HandS.SetKeys
import KE.KItemsList
import KE.KEqDict
import KE.KExcInit
import HandS.OwnEq
import HandS.Head0
import HandS.Head1
import HandS.Head2
import HandS.HeadHook1
import HandS.HeadHook2
import PySem.Challenge.RW_greatframes_k24_moves_step_by_step
set_option Elab.async false
set_option linter.all false
set_option maxRecDepth 100000
set_option maxHeartbeats 4000000
namespace MP
open PySem PySem.Spec PyProof.Rows L2
/-- mirror values: tuples and unchanging lists are trees; what changes is an index into the mirror heap -/
inductive MV where
  | non
  | bl (b : Bool)
  | int (i : Int)
  | str (x : Str)
  | tup (l : List MV)
  | lv (l : List MV)
  | dv (ks vs : List MV)
  | fz (l : List MV)
  | ref (n : Nat)
  | exv (n : Nat) (ks : List Str) (vs : List MV)
  | ov (ks : List Int) (ws : List MV) (k w : MV)
  deriving Inhabited
inductive MO where
  | lst (l : List MV)
  | dct (kvs : List (MV × MV))
  | fdc (kvs : List (MV × MV))
  | odc (ks : List Int) (ws : List MV) (k w : MV)
  | dtt (kvs : List (MV × MV))
  | fdt (kvs : List (MV × MV))
  | ins (c : Nat) (fs : List (Str × MV))
  deriving Inhabited
abbrev MH := List MO
structure MX where
  c : Nat
  fs : List (Str × MV)
abbrev Lo := List (Option MV)
inductive R (α : Type) where
  | ok (a : α) (h : MH)
  | ex (e : MX) (h : MH)
  | bad
inductive SR where
  | nx (σ : Lo) (h : MH)
  | rt (v : MV) (h : MH)
  | bk (σ : Lo) (h : MH)
  | ct (σ : Lo) (h : MH)
  | ex (e : MX) (σ : Lo) (h : MH)
  | bad
abbrev EM := Lo → MH → R MV
abbrev TM := Lo → MH → R Bool
abbrev AM := Lo → MH → R (List MV)
abbrev SM := Lo → MH → SR
/-- what the mirror speaks of: the written part, where the classes stand -/
structure C where
  K : PySem.W.Frag
  ca : Nat → Addr
  /-- what a suite holds: the slot of the caught exception, where it stands, its class, its dict -/
  xp : Option (Nat × Addr × Nat × Option Addr) := none
/-- slot i isn't the caught exception's -/
noncomputable def C.fr (c : C) (i : Nat) : Bool := match c.xp with
  | none => true
  | some (s, _) => !(Nat.beq s i)
/-- dicts' keys -/
noncomputable def mkey : MV → Option Key
  | .int i => some (.inl i)
  | .str x => some (.inr x)
  | _ => none
noncomputable def RepKs : List MV → List Key → Prop
  | [], l => l = []
  | k :: r, l => ∃ k' r', l = k' :: r' ∧ mkey k = some k' ∧ RepKs r r'
/-- a dict, locked or not -/
noncomputable def IsDV (o : HO) (l : List (Key × V)) : Prop := o = .dK l ∨ ∃ od, o = .frz od (.dK l)
noncomputable def Vw (o o' : HO) : Prop := o = o' ∨ ∃ l, IsDV o l ∧ IsDV o' l
theorem Vw.rfl' {o : HO} : Vw o o := .inl rfl
theorem Vw.tup {xs : List V} {o : HO} (h : Vw (.tup xs) o) : o = .tup xs := by
  rcases h with h | ⟨l, h, _⟩
  · exact h.symm
  · rcases h with h | ⟨_, h⟩ <;> cases h
theorem Vw.lst {xs : List V} {o : HO} (h : Vw (.lst xs) o) : o = .lst xs := by
  rcases h with h | ⟨l, h, _⟩
  · exact h.symm
  · rcases h with h | ⟨_, h⟩ <;> cases h
theorem Vw.flst {xs : List V} {o : HO} {od : Obj} (h : Vw (.frz od (.lst xs)) o) : o = .frz od (.lst xs) := by
  rcases h with h | ⟨l, h, _⟩
  · exact h.symm
  · rcases h with h | ⟨_, h⟩ <;> cases h
theorem Vw.fr {od : Obj} {u o : HO} (h : Vw (.frz od u) o) (n : ∀ l, u ≠ .dK l) : o = .frz od u := by
  rcases h with h | ⟨l, h, _⟩
  · exact h.symm
  · rcases h with h | ⟨_, h⟩
    · cases h
    · injection h with _ h
      exact absurd h (n l)
theorem IsDV.inj {o : HO} {l l' : List (Key × V)} (h : IsDV o l) (h' : IsDV o l') : l = l' := by
  rcases h with rfl | ⟨_, rfl⟩ <;> rcases h' with h' | ⟨_, h'⟩ <;> cases h' <;> rfl
theorem Vw.dv {l : List (Key × V)} {o o' : HO} (h : Vw o o') (d : IsDV o l) : IsDV o' l := by
  rcases h with rfl | ⟨l', a, b⟩
  · exact d
  · rw [d.inj a]; exact b
section rep
variable (K : PySem.W.Frag) (ι β : List Addr) (H : Hp)
/-- a constant tuple of the written part -/
noncomputable def KT (K : PySem.W.Frag) (a : Addr) (xs : List V) : Prop :=
  ∃ (o : Obj) (its : Array Value) (n : Nat), K.lookup a = some o ∧ o.cls = .type "tuple" ∧ o.data = .seq its n ∧ its.size ≤ sizeLine ∧ Vals xs its.toList
/-- no text with a whole number behind -/
noncomputable def NoSI (xs : List V) : Prop := ∀ x i, xs ≠ [.str x, .int i]
/-- a constant list of the written part -/
noncomputable def KL (K : PySem.W.Frag) (a : Addr) (xs : List V) : Prop :=
  ∃ (o : Obj) (its : Array Value) (n : Nat), K.lookup a = some o ∧ o.cls = .type "list" ∧ o.dict = none ∧ o.data = .seq its n ∧ its.size ≤ sizeLine ∧ Vals xs its.toList
/-- a dict with small whole numbers as keys, behind which one other key stands; the object is known -/
noncomputable def OddD (o : Obj) (kvs : List (Int × V)) (kv : V) (hk : Int) (v : V) : Prop :=
  ∃ (es : Array DictEntry) (u y : Value) (ep : Nat), (o.cls = .type "dict" ∧ o.dict = none ∧ o.slots = #[]) ∧ o.data = .dict (es.push ⟨hk, u, y⟩) ep ∧ Paired (fun (p : Int × V) (e : DictEntry) => ∃ t, e.key = .int p.1 t ∧ e.hash = hashInt p.1 ∧ RelV p.2 e.val) kvs es.toList ∧
    (kvs.map (·.1)).Nodup ∧ (∀ p ∈ kvs, 0 ≤ p.1 ∧ p.1 ≤ 1000) ∧ RelV kv u ∧ RelV v y ∧ (kvs = [] ∨ 1000 < hk ∨ hk < 0) ∧ kvs.length ≤ 1000
mutual
noncomputable def RepV : MV → V → Prop
  | .non, v => v = .non
  | .bl b, v => v = .bl b
  | .int i, v => v = .int i
  | .str x, v => v = .str x
  | .tup l, v => ∃ a vs, v = .ref a ∧ (H a = some (.tup vs) ∧ a ∉ ι ∧ a ∉ β ∨ KT K a vs ∧ NoSI vs) ∧ RepVs l vs
  | .lv l, v => ∃ a vs, v = .ref a ∧ (H a = some (.lst vs) ∧ a ∉ ι ∧ a ∉ β) ∧ RepVs l vs
  | .dv ks ws, v => ∃ (a : Addr) (l : List (Key × V)), v = .ref a ∧ ((∃ o, H a = some o ∧ IsDV o l) ∧ a ∉ ι ∧ a ∉ β) ∧ RepKs ks (l.map (·.1)) ∧ RepVs ws (l.map (·.2))
  | .fz l, v => ∃ a vs, v = .ref a ∧ ((∃ o, H a = some (.frz o (.lst vs))) ∧ a ∉ ι ∧ a ∉ β ∨ KL K a vs) ∧ RepVs l vs
  | .ref n, v => ∃ a, v = .ref a ∧ ι[n]? = some a
  | .exv _ ks vs, v => ks = [Str.empty] ∧ vs = [] ∧ ∃ a, v = .ref a
  | .ov ks ws k w, v => ∃ (a : Addr) (o : Obj) (u : HO) (l : List (Int × V)) (kv : V) (hk : Int) (y : V), v = .ref a ∧ (H a = some (.frz o u) ∧ (∀ q, u ≠ .dK q) ∧ a ∉ ι ∧ a ∉ β) ∧ (a == sysModules) = false ∧ OddD o l kv hk y ∧ l.map (·.1) = ks ∧ RepVs ws (l.map (·.2)) ∧ RepV k kv ∧ RepV w y
noncomputable def RepVs : List MV → List V → Prop
  | [], vs => vs = []
  | m :: l, vs => ∃ v r, vs = v :: r ∧ RepV m v ∧ RepVs l r
end
end rep
/-- the heap goes on: what was mapped stays mapped; what is tracked and not mapped stays as it is; newly mapped things are new -/
structure Fr (ι : List Addr) (H : Hp) (ι' : List Addr) (H' : Hp) : Prop where
  pre : ∃ t, ι' = ι ++ t
  keep : ∀ a o, H a = some o → a ∉ ι → ∃ o', H' a = some o' ∧ Vw o o'
  news : ∀ a, a ∈ ι' → a ∉ ι → H a = none
  frz : ∀ a o u, H a = some (.frz o u) → H' a = some (.frz o u)
theorem Vw.trans {a b d : HO} (h : Vw a b) (g : Vw b d) : Vw a d := by
  rcases h with rfl | ⟨l, h1, h2⟩
  · exact g
  · exact .inr ⟨l, h1, g.dv h2⟩
theorem Fr.refl {ι : List Addr} {H : Hp} : Fr ι H ι H := ⟨⟨[], by simp⟩, fun _ o h _ => ⟨o, h, .rfl'⟩, fun a h n => absurd h n, fun _ _ _ h => h⟩
theorem Fr.sub {ι ι' : List Addr} {H H' : Hp} (f : Fr ι H ι' H') {a : Addr} (h : a ∈ ι) : a ∈ ι' := by
  obtain ⟨t, rfl⟩ := f.pre
  exact List.mem_append_left _ h
theorem Fr.out {ι ι' : List Addr} {H H' : Hp} (f : Fr ι H ι' H') {a : Addr} {o : HO} (h : H a = some o) (n : a ∉ ι) : a ∉ ι' := fun z => by
  have := f.news a z n
  rw [h] at this; cases this
theorem Fr.trans {ι ι1 ι2 : List Addr} {H H1 H2 : Hp} (f : Fr ι H ι1 H1) (g : Fr ι1 H1 ι2 H2) : Fr ι H ι2 H2 := by
  refine ⟨?_, fun a o h n => ?_, fun a h n => ?_, fun a o u h => g.frz a o u (f.frz a o u h)⟩
  · obtain ⟨t, rfl⟩ := f.pre
    obtain ⟨u, rfl⟩ := g.pre
    exact ⟨t ++ u, by simp⟩
  · obtain ⟨o1, e1, w1⟩ := f.keep a o h n
    obtain ⟨o2, e2, w2⟩ := g.keep a o1 e1 (f.out h n)
    exact ⟨o2, e2, w1.trans w2⟩
  · by_cases z : a ∈ ι1
    · exact f.news a z n
    · have e := g.news a h z
      cases q : H a with
      | none => rfl
      | some o =>
        obtain ⟨o1, e1, _⟩ := f.keep a o q n
        rw [e1] at e; cases e
theorem Fr.get {ι ι' : List Addr} {H H' : Hp} (f : Fr ι H ι' H') {n : Nat} {a : Addr} (h : ι[n]? = some a) : ι'[n]? = some a := by
  obtain ⟨t, rfl⟩ := f.pre
  rw [List.getElem?_append_left]
  · exact h
  · exact (List.getElem?_eq_some_iff.mp h).1
/-- values go from one state to another: what may be read stays, what is mapped stays mapped -/
structure Mov (ι β : List Addr) (H : Hp) (ι' β' : List Addr) (H' : Hp) : Prop where
  out : ∀ a o, H a = some o → a ∉ ι → a ∉ β → (∃ o', H' a = some o' ∧ Vw o o') ∧ a ∉ ι' ∧ a ∉ β'
  get : ∀ (n : Nat) a, ι[n]? = some a → ι'[n]? = some a
theorem Fr.mov {ι ι' β : List Addr} {H H' : Hp} (f : Fr ι H ι' H') : Mov ι β H ι' β H' :=
  ⟨fun a o h n nb => ⟨f.keep a o h n, f.out h n, nb⟩, fun _ _ h => f.get h⟩
mutual
theorem RepV.move {K : PySem.W.Frag} {ι β ι' β' : List Addr} {H H' : Hp} (f : Mov ι β H ι' β' H') : ∀ {m : MV} {v : V}, RepV K ι β H m v → RepV K ι' β' H' m v
  | .non, _, h => by unfold RepV at h ⊢; exact h
  | .bl _, _, h => by unfold RepV at h ⊢; exact h
  | .int _, _, h => by unfold RepV at h ⊢; exact h
  | .str _, _, h => by unfold RepV at h ⊢; exact h
  | .tup l, _, h => by
    unfold RepV at h ⊢
    obtain ⟨a, vs, e, q, r⟩ := h
    refine ⟨a, vs, e, ?_, RepVs.move f r⟩
    rcases q with ⟨q, n, nb⟩ | q
    · obtain ⟨⟨o, e, w⟩, z⟩ := f.out _ _ q n nb
      exact .inl ⟨by rw [e, w.tup], z⟩
    · exact .inr q
  | .lv l, _, h => by
    unfold RepV at h ⊢
    obtain ⟨a, vs, e, ⟨q, n, nb⟩, r⟩ := h
    obtain ⟨⟨o, e', w⟩, z⟩ := f.out _ _ q n nb
    exact ⟨a, vs, e, ⟨by rw [e', w.lst], z⟩, RepVs.move f r⟩
  | .dv ks ws, _, h => by
    unfold RepV at h ⊢
    obtain ⟨a, l, e, ⟨⟨u, q, iv⟩, n, nb⟩, k, r⟩ := h
    obtain ⟨⟨o, e', w⟩, z⟩ := f.out _ _ q n nb
    exact ⟨a, l, e, ⟨⟨o, e', w.dv iv⟩, z⟩, k, RepVs.move f r⟩
  | .fz l, _, h => by
    unfold RepV at h ⊢
    obtain ⟨a, vs, e, q, r⟩ := h
    refine ⟨a, vs, e, ?_, RepVs.move f r⟩
    rcases q with ⟨⟨o, q⟩, n, nb⟩ | q
    · obtain ⟨⟨o', e', w⟩, z⟩ := f.out _ _ q n nb
      exact .inl ⟨⟨o, by rw [e', w.flst]⟩, z⟩
    · exact .inr q
  | .ref n, _, h => by
    unfold RepV at h ⊢
    obtain ⟨a, e, q⟩ := h
    exact ⟨a, e, f.get _ _ q⟩
  | .exv _ _ _, _, h => by unfold RepV at h ⊢; exact h
  | .ov ks ws k w, _, h => by
    unfold RepV at h ⊢
    obtain ⟨a, o, u, l, kv, hk, y, e, ⟨q, nu, n, nb⟩, sm, od, ek, r1, r2, r3⟩ := h
    obtain ⟨⟨o', e', w⟩, z⟩ := f.out _ _ q n nb
    exact ⟨a, o, u, l, kv, hk, y, e, ⟨by rw [e', w.fr nu], nu, z⟩, sm, od, ek, RepVs.move f r1, RepV.move f r2, RepV.move f r3⟩
theorem RepVs.move {K : PySem.W.Frag} {ι β ι' β' : List Addr} {H H' : Hp} (f : Mov ι β H ι' β' H') : ∀ {l : List MV} {vs : List V}, RepVs K ι β H l vs → RepVs K ι' β' H' l vs
  | [], _, h => by unfold RepVs at h ⊢; exact h
  | m :: l, _, h => by
    unfold RepVs at h ⊢
    obtain ⟨v, r, e, q, t⟩ := h
    exact ⟨v, r, e, RepV.move f q, RepVs.move f t⟩
end
theorem RepV.mono {K : PySem.W.Frag} {ι ι' β : List Addr} {H H' : Hp} (f : Fr ι H ι' H') {m : MV} {v : V} (h : RepV K ι β H m v) : RepV K ι' β H' m v := h.move f.mov
theorem RepVs.mono {K : PySem.W.Frag} {ι ι' β : List Addr} {H H' : Hp} (f : Fr ι H ι' H') {l : List MV} {vs : List V} (h : RepVs K ι β H l vs) : RepVs K ι' β H' l vs := h.move f.mov
theorem RepV.fz_iff {K : PySem.W.Frag} {ι β : List Addr} {H : Hp} {l : List MV} {v : V} (h : RepV K ι β H (.fz l) v) : ∃ a vs, v = .ref a ∧ SqL K H a vs ∧ RepVs K ι β H l vs := by
  unfold RepV at h
  obtain ⟨a, vs, e, q, r⟩ := h
  refine ⟨a, vs, e, ?_, r⟩
  rcases q with ⟨⟨o, q⟩, _⟩ | q
  · exact .inl (.inr ⟨o, q⟩)
  · exact .inr q
section
variable {K : PySem.W.Frag} {ι ι' β : List Addr} {H H' : Hp}
theorem RepVs.nil : RepVs K ι β H [] [] := by unfold RepVs; rfl
theorem RepVs.cons {m : MV} {v : V} {l : List MV} {vs : List V} (a : RepV K ι β H m v) (b : RepVs K ι β H l vs) : RepVs K ι β H (m :: l) (v :: vs) := by
  unfold RepVs; exact ⟨v, vs, rfl, a, b⟩
theorem RepVs.nil_iff {vs : List V} (h : RepVs K ι β H [] vs) : vs = [] := by unfold RepVs at h; exact h
theorem RepVs.cons_iff {m : MV} {l : List MV} {vs : List V} (h : RepVs K ι β H (m :: l) vs) : ∃ v r, vs = v :: r ∧ RepV K ι β H m v ∧ RepVs K ι β H l r := by unfold RepVs at h; exact h
theorem RepVs.length : ∀ {l : List MV} {vs : List V}, RepVs K ι β H l vs → l.length = vs.length
  | [], _, h => by rw [h.nil_iff]; rfl
  | _ :: _, _, h => by
    obtain ⟨v, r, rfl, _, t⟩ := h.cons_iff
    simp [RepVs.length t]
theorem RepVs.get : ∀ {l : List MV} {vs : List V} {i : Nat} {m : MV}, RepVs K ι β H l vs → l[i]? = some m → ∃ v, vs[i]? = some v ∧ RepV K ι β H m v
  | [], _, _, _, _, e => by simp at e
  | _ :: _, _, 0, _, h, e => by
    obtain ⟨v, r, rfl, q, _⟩ := h.cons_iff
    simp at e; subst e
    exact ⟨v, rfl, q⟩
  | _ :: _, _, i + 1, _, h, e => by
    obtain ⟨v, r, rfl, _, t⟩ := h.cons_iff
    obtain ⟨u, e2, q⟩ := RepVs.get (i := i) t (by simpa using e)
    exact ⟨u, by simpa using e2, q⟩
theorem RepVs.append : ∀ {l l' : List MV} {vs vs' : List V}, RepVs K ι β H l vs → RepVs K ι β H l' vs' → RepVs K ι β H (l ++ l') (vs ++ vs')
  | [], _, _, _, h, h' => by rw [h.nil_iff]; exact h'
  | _ :: _, _, _, _, h, h' => by
    obtain ⟨v, r, rfl, q, t⟩ := h.cons_iff
    exact .cons q (RepVs.append t h')
theorem RepVs.take : ∀ {l : List MV} {vs : List V} (n : Nat), RepVs K ι β H l vs → RepVs K ι β H (l.take n) (vs.take n)
  | _, _, 0, _ => by simp; exact .nil
  | [], _, _ + 1, h => by rw [h.nil_iff]; simp; exact .nil
  | _ :: _, _, n + 1, h => by
    obtain ⟨v, r, rfl, q, t⟩ := h.cons_iff
    simp only [List.take_succ_cons]
    exact .cons q (RepVs.take n t)
theorem RepVs.drop : ∀ {l : List MV} {vs : List V} (n : Nat), RepVs K ι β H l vs → RepVs K ι β H (l.drop n) (vs.drop n)
  | _, _, 0, h => by simpa using h
  | [], _, _ + 1, h => by rw [h.nil_iff]; simp; exact .nil
  | _ :: _, _, n + 1, h => by
    obtain ⟨v, r, rfl, q, t⟩ := h.cons_iff
    simp only [List.drop_succ_cons]
    exact RepVs.drop n t
theorem RepVs.set {m : MV} {v : V} (q : RepV K ι β H m v) : ∀ {l : List MV} {vs : List V} (i : Nat), RepVs K ι β H l vs → RepVs K ι β H (l.set i m) (vs.set i v)
  | [], _, _, h => by rw [h.nil_iff]; simp; exact .nil
  | _ :: _, _, 0, h => by
    obtain ⟨u, r, rfl, _, t⟩ := h.cons_iff
    exact .cons q t
  | _ :: _, _, i + 1, h => by
    obtain ⟨u, r, rfl, p, t⟩ := h.cons_iff
    exact .cons p (RepVs.set q i t)
theorem RepVs.ints : ∀ {ns : List Int}, RepVs K ι β H (ns.map MV.int) (ns.map V.int)
  | [] => .nil
  | _ :: _ => .cons (by unfold RepV; rfl) RepVs.ints
theorem RepVs.replicate {m : MV} {v : V} (q : RepV K ι β H m v) : ∀ n : Nat, RepVs K ι β H (List.replicate n m) (List.replicate n v)
  | 0 => .nil
  | n + 1 => .cons q (RepVs.replicate q n)
theorem RepVs.flat {l : List MV} {vs : List V} (h : RepVs K ι β H l vs) : ∀ n : Nat, RepVs K ι β H (List.replicate n l).flatten (List.replicate n vs).flatten
  | 0 => .nil
  | n + 1 => h.append (RepVs.flat h n)
end
noncomputable def RepKV (K : PySem.W.Frag) (ι β : List Addr) (H : Hp) : List (MV × MV) → List (Key × V) → Prop
  | [], l => l = []
  | (k, m) :: r, l => ∃ k' v r', l = (k', v) :: r' ∧ mkey k = some k' ∧ RepV K ι β H m v ∧ RepKV K ι β H r r'
theorem RepKV.move {K : PySem.W.Frag} {ι β ι' β' : List Addr} {H H' : Hp} (f : Mov ι β H ι' β' H') : ∀ {l : List (MV × MV)} {r : List (Key × V)}, RepKV K ι β H l r → RepKV K ι' β' H' l r
  | [], _, h => h
  | _ :: _, _, h => by
    obtain ⟨k', v, r', e, a, b, c⟩ := h
    exact ⟨k', v, r', e, a, b.move f, RepKV.move f c⟩
noncomputable def RepFs (K : PySem.W.Frag) (ι β : List Addr) (H : Hp) : List (Str × MV) → List (Str × V) → Prop
  | [], l => l = []
  | (k, m) :: r, l => ∃ v r', l = (k, v) :: r' ∧ RepV K ι β H m v ∧ RepFs K ι β H r r'
theorem RepFs.move {K : PySem.W.Frag} {ι β ι' β' : List Addr} {H H' : Hp} (f : Mov ι β H ι' β' H') : ∀ {l : List (Str × MV)} {r : List (Str × V)}, RepFs K ι β H l r → RepFs K ι' β' H' l r
  | [], _, h => h
  | _ :: _, _, h => by
    obtain ⟨v, r', e, b, c⟩ := h
    exact ⟨v, r', e, b.move f, RepFs.move f c⟩
noncomputable def mkeys : List MV → Option (List Key)
  | [] => some []
  | a :: l => match mkey a with
    | some k => match mkeys l with
      | some r => some (k :: r)
      | none => none
    | none => none
noncomputable def tkey : MV → Option (List Key)
  | .tup l => mkeys l
  | _ => none
noncomputable def RepTV (K : PySem.W.Frag) (ι β : List Addr) (H : Hp) : List (MV × MV) → List (List Key × V) → Prop
  | [], l => l = []
  | (k, m) :: r, l => ∃ k' v l', l = (k', v) :: l' ∧ tkey k = some k' ∧ RepV K ι β H m v ∧ RepTV K ι β H r l'
theorem RepTV.move {K : PySem.W.Frag} {ι β ι' β' : List Addr} {H H' : Hp} (f : Mov ι β H ι' β' H') : ∀ {r : List (MV × MV)} {l : List (List Key × V)}, RepTV K ι β H r l → RepTV K ι' β' H' r l
  | [], _, h => h
  | (k, m) :: r, _, h => by
    obtain ⟨k', v, l', e, ek, rv, t⟩ := h
    exact ⟨k', v, l', e, ek, rv.move f, RepTV.move f t⟩
noncomputable def RepO (c : C) (ι β : List Addr) (H : Hp) (a : Addr) : MO → Prop
  | .lst l => ∃ vs, H a = some (.lst vs) ∧ RepVs c.K ι β H l vs
  | .dct kvs => ∃ l, H a = some (.dK l) ∧ RepKV c.K ι β H kvs l
  | .fdc kvs => ∃ o l, H a = some (.frz o (.dK l)) ∧ RepKV c.K ι β H kvs l
  | .odc ks ws k w => ∃ (o : Obj) (u : HO) (l : List (Int × V)) (kv : V) (hk : Int) (y : V), H a = some (.frz o u) ∧ (∀ q, u ≠ .dK q) ∧ (a == sysModules) = false ∧ OddD o l kv hk y ∧ l.map (·.1) = ks ∧ RepVs c.K ι β H ws (l.map (·.2)) ∧ RepV c.K ι β H k kv ∧ RepV c.K ι β H w y
  | .dtt kvs => ∃ l, H a = some (.dT l) ∧ RepTV c.K ι β H kvs l
  | .fdt kvs => ∃ o l, H a = some (.frz o (.dT l)) ∧ RepTV c.K ι β H kvs l
  | .ins n fs => ∃ dx l, H a = some (.ins (c.ca n) dx l) ∧ RepFs c.K ι β H fs l
theorem RepO.some {c : C} {ι β : List Addr} {H : Hp} {a : Addr} {o : MO} (h : RepO c ι β H a o) : ∃ u, H a = some u := by
  cases o with
  | lst l => obtain ⟨vs, e, _⟩ := h; exact ⟨_, e⟩
  | dct l => obtain ⟨vs, e, _⟩ := h; exact ⟨_, e⟩
  | fdc l => obtain ⟨o, vs, e, _⟩ := h; exact ⟨_, e⟩
  | odc ks ws k w => obtain ⟨_, _, _, _, _, _, e, _⟩ := h; exact ⟨_, e⟩
  | dtt l => obtain ⟨vs, e, _⟩ := h; exact ⟨_, e⟩
  | fdt l => obtain ⟨o, vs, e, _⟩ := h; exact ⟨_, e⟩
  | ins n fs => obtain ⟨dx, l, e, _⟩ := h; exact ⟨_, e⟩
theorem RepO.move {c : C} {ι β ι' β' : List Addr} {H H' : Hp} {a : Addr} {o : MO} (f : Mov ι β H ι' β' H') (e : H' a = H a) (h : RepO c ι β H a o) : RepO c ι' β' H' a o := by
  cases o with
  | lst l => obtain ⟨vs, q, r⟩ := h; exact ⟨vs, e.trans q, r.move f⟩
  | dct l => obtain ⟨vs, q, r⟩ := h; exact ⟨vs, e.trans q, r.move f⟩
  | fdc l => obtain ⟨o, vs, q, r⟩ := h; exact ⟨o, vs, e.trans q, r.move f⟩
  | odc ks ws k w => obtain ⟨o, u, l, kv, hk, y, q, nu, sm, od, ek, r1, r2, r3⟩ := h; exact ⟨o, u, l, kv, hk, y, e.trans q, nu, sm, od, ek, r1.move f, r2.move f, r3.move f⟩
  | dtt kvs => obtain ⟨vs, q, r⟩ := h; exact ⟨vs, e.trans q, r.move f⟩
  | fdt kvs => obtain ⟨o, vs, q, r⟩ := h; exact ⟨o, vs, e.trans q, r.move f⟩
  | ins n fs => obtain ⟨dx, l, q, r⟩ := h; exact ⟨dx, l, e.trans q, r.move f⟩
theorem RepO.mono {c : C} {ι ι' β : List Addr} {H H' : Hp} {a : Addr} {o : MO} (f : Fr ι H ι' H') (e : H' a = H a) (h : RepO c ι β H a o) : RepO c ι' β H' a o := h.move f.mov e
/-- neither locked nor a tuple -/
noncomputable def NFz (o : HO) : Prop := (∀ od u, o ≠ .frz od u) ∧ ∀ xs, o ≠ .tup xs
structure Rel (c : C) (ι β : List Addr) (H : Hp) (mh : MH) : Prop where
  len : mh.length = ι.length
  nd : ι.Nodup
  ban : ∀ a, a ∈ β → ∃ o, H a = some o ∧ a ∉ ι ∧ NFz o
  obj : ∀ (n : Nat) (o : MO), mh[n]? = some o → ∃ a, ι[n]? = some a ∧ RepO c ι β H a o
section
variable {c : C} {ι ι' β : List Addr} {H H' : Hp} {mh : MH} {a p : Addr} {o : HO}
theorem Rel.at (r : Rel c ι β H mh) {n : Nat} (h : ι[n]? = some a) : ∃ o, mh[n]? = some o ∧ RepO c ι β H a o := by
  have hn : n < mh.length := by rw [r.len]; exact (List.getElem?_eq_some_iff.mp h).1
  obtain ⟨b, e, q⟩ := r.obj n mh[n] (List.getElem?_eq_getElem hn)
  rw [h] at e; cases e
  exact ⟨_, List.getElem?_eq_getElem hn, q⟩
theorem Rel.tracked (r : Rel c ι β H mh) (h : a ∈ ι) : ∃ u, H a = some u := by
  obtain ⟨n, hn, e⟩ := List.getElem_of_mem h
  obtain ⟨o, _, q⟩ := r.at (n := n) (a := a) (by rw [List.getElem?_eq_getElem hn, e])
  exact q.some
theorem Rel.fresh (r : Rel c ι β H mh) (h : H p = none) : p ∉ ι := fun z => by
  obtain ⟨u, e⟩ := r.tracked z
  rw [h] at e; cases e
/-- a new thing that isn't mapped -/
theorem Fr.lay (r : Rel c ι β H mh) (h : H p = none) : Fr ι H ι (upd H p o) :=
  ⟨⟨[], by simp⟩, fun a u e _ => ⟨u, by rw [upd_ne (ne_of_none e h)]; exact e, .rfl'⟩, fun a z n => absurd z n, fun a _ u e => by rw [upd_ne (ne_of_none e h)]; exact e⟩
theorem Rel.lay (r : Rel c ι β H mh) (h : H p = none) : Rel c ι β (upd H p o) mh := by
  refine ⟨r.len, r.nd, fun b hb => ?_, fun n u e => ?_⟩
  · obtain ⟨u, e, n, nf⟩ := r.ban b hb
    exact ⟨u, by rw [upd_ne (ne_of_none e h)]; exact e, n, nf⟩
  obtain ⟨a, e1, q⟩ := r.obj n u e
  obtain ⟨w, hw⟩ := q.some
  exact ⟨a, e1, q.mono (Fr.lay r h) (upd_ne (ne_of_none hw h))⟩
/-- a new thing, mapped -/
theorem Fr.new (r : Rel c ι β H mh) (h : H p = none) : Fr ι H (ι ++ [p]) (upd H p o) :=
  ⟨⟨[p], rfl⟩, fun a u e _ => ⟨u, by rw [upd_ne (ne_of_none e h)]; exact e, .rfl'⟩, fun a z n => by
    rcases List.mem_append.mp z with z | z
    · exact absurd z n
    · have : a = p := by simpa using z
      rw [this]; exact h, fun a _ u e => by rw [upd_ne (ne_of_none e h)]; exact e⟩
theorem Rel.new {mo : MO} (r : Rel c ι β H mh) (h : H p = none) (q : RepO c (ι ++ [p]) β (upd H p o) p mo) : Rel c (ι ++ [p]) β (upd H p o) (mh ++ [mo]) := by
  refine ⟨by simp [r.len], ?_, fun b hb => ?_, fun n u e => ?_⟩
  · refine List.nodup_append.mpr ⟨r.nd, by simp, fun a ha b hb => ?_⟩
    have : b = p := by simpa using hb
    subst this
    rintro rfl
    exact r.fresh h ha
  · obtain ⟨u, e, n, nf⟩ := r.ban b hb
    refine ⟨u, by rw [upd_ne (ne_of_none e h)]; exact e, fun z => ?_, nf⟩
    rcases List.mem_append.mp z with z | z
    · exact n z
    · have : b = p := by simpa using z
      rw [this, h] at e; cases e
  · by_cases hn : n < mh.length
    · rw [List.getElem?_append_left hn] at e
      obtain ⟨a, e1, q1⟩ := r.obj n u e
      obtain ⟨w, hw⟩ := q1.some
      refine ⟨a, ?_, q1.mono (Fr.new r h) (upd_ne (ne_of_none hw h))⟩
      rw [List.getElem?_append_left (by rw [← r.len]; exact hn)]
      exact e1
    · rw [List.getElem?_append_right (by omega)] at e
      have hz : n - mh.length = 0 := by
        have := (List.getElem?_eq_some_iff.mp e).1
        simp at this
        exact this
      rw [hz] at e
      simp at e
      subst e
      refine ⟨p, ?_, q⟩
      rw [List.getElem?_append_right (by rw [← r.len]; omega), ← r.len, hz]
      rfl
/-- a mapped thing changed -/
theorem Fr.put {n : Nat} (h : ι[n]? = some a) (nf : ∀ o u, H a ≠ some (.frz o u)) : Fr ι H ι (upd H a o) :=
  ⟨⟨[], by simp⟩, fun b u e nb => ⟨u, by
    rw [upd_ne]
    · exact e
    · rintro rfl
      exact nb (List.mem_of_getElem? h), .rfl'⟩, fun a z n => absurd z n, fun b _ u e => by
    rw [upd_ne]
    · exact e
    · rintro rfl
      exact nf _ _ e⟩
theorem Rel.put {n : Nat} {mo : MO} (r : Rel c ι β H mh) (h : ι[n]? = some a) (nf : ∀ o u, H a ≠ some (.frz o u)) (q : RepO c ι β (upd H a o) a mo) : Rel c ι β (upd H a o) (mh.set n mo) := by
  refine ⟨by simp [r.len], r.nd, fun b hb => ?_, fun m u e => ?_⟩
  · obtain ⟨u, e, n', nf'⟩ := r.ban b hb
    refine ⟨u, ?_, n', nf'⟩
    rw [upd_ne]
    · exact e
    · rintro rfl
      exact n' (List.mem_of_getElem? h)
  by_cases hm : m = n
  · subst hm
    rw [List.getElem?_set_self (by rw [r.len]; exact (List.getElem?_eq_some_iff.mp h).1)] at e
    cases e
    exact ⟨a, h, q⟩
  · rw [List.getElem?_set_ne (Ne.symm hm)] at e
    obtain ⟨b, e1, q1⟩ := r.obj m u e
    refine ⟨b, e1, q1.mono (Fr.put h nf) (upd_ne ?_)⟩
    rintro rfl
    obtain ⟨h1, e2⟩ := List.getElem?_eq_some_iff.mp e1
    obtain ⟨h2, e3⟩ := List.getElem?_eq_some_iff.mp h
    exact hm ((List.getElem_inj r.nd).mp (e2.trans e3.symm))
end
section
variable {c : C} {ι β : List Addr} {H : Hp} {mh : MH} {D : Addr} {o : HO}
theorem Mov.ban (h : H D = none) : Mov ι β H ι (D :: β) (upd H D o) :=
  ⟨fun a u e n nb => ⟨⟨u, by rw [upd_ne (ne_of_none e h)]; exact e, .rfl'⟩, n, fun z => by
    rcases List.mem_cons.mp z with z | z
    · exact ne_of_none e h z
    · exact nb z⟩, fun _ _ h => h⟩
theorem Rel.ban' (r : Rel c ι β H mh) (h : H D = none) (nf : ∀ od u, o ≠ .frz od u) (nt : ∀ xs, o ≠ .tup xs := by intro xs z; cases z) : Rel c ι (D :: β) (upd H D o) mh := by
  refine ⟨r.len, r.nd, fun b hb => ?_, fun n u e => ?_⟩
  · rcases List.mem_cons.mp hb with rfl | hb
    · exact ⟨o, upd_same, r.fresh h, ⟨nf, nt⟩⟩
    · obtain ⟨u, e, n, nf'⟩ := r.ban b hb
      exact ⟨u, by rw [upd_ne (ne_of_none e h)]; exact e, n, nf'⟩
  · obtain ⟨a, e1, q⟩ := r.obj n u e
    obtain ⟨w, hw⟩ := q.some
    exact ⟨a, e1, q.move (Mov.ban h) (upd_ne (ne_of_none hw h))⟩
theorem Mov.turn : Mov ι (D :: β) H ι (D :: β) (upd H D o) :=
  ⟨fun a u e n nb => ⟨⟨u, by rw [upd_ne (fun z => nb (by rw [z]; exact List.mem_cons_self))]; exact e, .rfl'⟩, n, nb⟩, fun _ _ h => h⟩
theorem Rel.turn (r : Rel c ι (D :: β) H mh) (nf : ∀ od u, o ≠ .frz od u) (nt : ∀ xs, o ≠ .tup xs := by intro xs z; cases z) : Rel c ι (D :: β) (upd H D o) mh := by
  obtain ⟨uD, eD, nD, fD⟩ := r.ban D List.mem_cons_self
  refine ⟨r.len, r.nd, fun b hb => ?_, fun n u e => ?_⟩
  · by_cases z : b = D
    · subst z
      exact ⟨o, upd_same, nD, ⟨nf, nt⟩⟩
    · obtain ⟨u, e, n, nf'⟩ := r.ban b hb
      exact ⟨u, by rw [upd_ne z]; exact e, n, nf'⟩
  · obtain ⟨a, e1, q⟩ := r.obj n u e
    exact ⟨a, e1, q.move Mov.turn (upd_ne (fun z => nD (by rw [← z]; exact List.mem_of_getElem? e1)))⟩
theorem Mov.free : Mov ι (D :: β) H ι β H :=
  ⟨fun a u e n nb => ⟨⟨u, e, .rfl'⟩, n, fun z => nb (List.mem_cons_of_mem _ z)⟩, fun _ _ h => h⟩
theorem Rel.free (r : Rel c ι (D :: β) H mh) : Rel c ι β H mh :=
  ⟨r.len, r.nd, fun b hb => r.ban b (List.mem_cons_of_mem _ hb), fun n u e => by
    obtain ⟨a, e1, q⟩ := r.obj n u e
    exact ⟨a, e1, q.move Mov.free rfl⟩⟩
end
/-- a caught exception's place: its dict has the fields -/
noncomputable def RepE (c : C) (ι β : List Addr) (H : Hp) (a : Addr) (d : Nat × Option Addr) : MV → V → Prop
  | .exv n ks vs, v => v = .ref a ∧ n = d.1 ∧ ((ks = [] ∧ d.2 = none) ∨ ∃ dd gs, d.2 = some dd ∧ (H dd = some (.xd gs) ∧ dd ∉ ι ∧ dd ∉ β) ∧ RepFs c.K ι β H (ks.zip vs) gs)
  | _, _ => False
theorem Vw.xd {l : List (Str × V)} {o : HO} (h : Vw (.xd l) o) : o = .xd l := by
  rcases h with h | ⟨_, h, _⟩
  · exact h.symm
  · rcases h with h | ⟨_, h⟩ <;> cases h
theorem RepE.move {c : C} {ι β ι' β' : List Addr} {H H' : Hp} {a : Addr} {d : Nat × Option Addr} (f : Mov ι β H ι' β' H') {m : MV} {v : V} (h : RepE c ι β H a d m v) : RepE c ι' β' H' a d m v := by
  cases m with
  | exv n ks vs =>
    obtain ⟨e, en, q⟩ := h
    refine ⟨e, en, ?_⟩
    rcases q with q | ⟨dd, gs, ed, ⟨q, n, nb⟩, r⟩
    · exact .inl q
    · obtain ⟨⟨o, e', w⟩, z⟩ := f.out _ _ q n nb
      exact .inr ⟨dd, gs, ed, ⟨by rw [e', w.xd], z⟩, r.move f⟩
  | _ => exact h.elim
/-- the locals -/
structure RepL (c : C) (ι β : List Addr) (H : Hp) (σm : Lo) (σ : L2.St) : Prop where
  len : σm.length = σ.length
  all : ∀ (i : Nat) (m : MV), σm[i]? = some (some m) → ∃ v, σ[i]? = some (some v) ∧ (RepV c.K ι β H m v ∨ ∃ a d, c.xp = some (i, a, d) ∧ RepE c ι β H a d m v)
section
variable {c : C} {ι ι' β : List Addr} {H H' : Hp} {σm : Lo} {σ : L2.St}
theorem RepL.move {β' : List Addr} (f : Mov ι β H ι' β' H') (r : RepL c ι β H σm σ) : RepL c ι' β' H' σm σ := ⟨r.len, fun i m e => by
  obtain ⟨v, e1, q⟩ := r.all i m e
  exact ⟨v, e1, q.imp (·.move f) fun ⟨a, d, x, q⟩ => ⟨a, d, x, q.move f⟩⟩⟩
theorem RepL.mono (f : Fr ι H ι' H') (r : RepL c ι β H σm σ) : RepL c ι' β H' σm σ := r.move f.mov
theorem RepL.put {i : Nat} {m : MV} {v : V} (r : RepL c ι β H σm σ) (q : RepV c.K ι β H m v ∨ ∃ a d, c.xp = some (i, a, d) ∧ RepE c ι β H a d m v) : RepL c ι β H (σm.set i (some m)) (σ.set i (some v)) := by
  refine ⟨by simp [r.len], fun j m' e => ?_⟩
  by_cases hj : j = i
  · subst hj
    have hlt : j < σm.length := by
      have := (List.getElem?_eq_some_iff.mp e).1
      simpa using this
    rw [List.getElem?_set_self hlt] at e
    cases e
    exact ⟨v, List.getElem?_set_self (by rw [← r.len]; exact hlt), q⟩
  · rw [List.getElem?_set_ne (Ne.symm hj)] at e
    obtain ⟨v', e1, q1⟩ := r.all j m' e
    exact ⟨v', by rw [List.getElem?_set_ne (Ne.symm hj)]; exact e1, q1⟩
theorem RepL.val {i : Nat} (r : RepL c ι β H σm σ) (hx : c.fr i = true) (m : MV) (e : σm[i]? = some (some m)) : ∃ v, σ[i]? = some (some v) ∧ RepV c.K ι β H m v := by
  obtain ⟨v, e1, q | ⟨a, d, x, _⟩⟩ := r.all i m e
  · exact ⟨v, e1, q⟩
  · unfold C.fr at hx
    rw [x] at hx
    simp at hx
theorem RepL.set {i : Nat} {m : MV} {v : V} (r : RepL c ι β H σm σ) (q : RepV c.K ι β H m v) : RepL c ι β H (σm.set i (some m)) (σ.set i (some v)) := r.put (.inl q)
theorem RepL.clear (vs : List Nat) (r : RepL c ι β H σm σ) : RepL c ι β H (vs.foldr (fun i l => l.set i none) σm) (wipe σ vs) := by
  induction vs with
  | nil => exact r
  | cons i vs ih =>
    refine ⟨by simp [ih.len, wipe, wipe_length], fun j m e => ?_⟩
    by_cases hj : j = i
    · subst hj
      simp only [List.foldr_cons] at e
      rw [List.getElem?_set] at e
      simp at e
    · simp only [List.foldr_cons] at e
      rw [List.getElem?_set_ne (Ne.symm hj)] at e
      obtain ⟨v, e1, q⟩ := ih.all j m e
      exact ⟨v, by show (wipe σ (i :: vs))[j]? = _; unfold wipe; rw [List.getElem?_set_ne (Ne.symm hj)]; exact e1, q⟩
end
end MP
namespace MP
open PySem PySem.Spec PyProof.Rows L2
abbrev St := L2.St
/-- an own exception that flies: its class, its own dict -/
noncomputable def RepX (c : C) (ι β : List Addr) (H : Hp) (e : MX) (cls : Value) (d : Option Addr) : Prop :=
  cls = .ref (c.ca e.c) ∧ match e.fs with
    | [] => d = none
    | fs => ∃ dd gs, d = some dd ∧ H dd = some (.xd gs) ∧ dd ∉ ι ∧ dd ∉ β ∧ RepFs c.K ι β H fs gs
section post
variable {α γ δ : Type}
/-- what is wanted of a mirror result -/
noncomputable def Post (c : C) (ι β : List Addr) (H : Hp) (Rp : List Addr → List Addr → Hp → α → δ → Prop) (Q : δ → Hp → Prop) (W : Value → Option Addr → Hp → Prop) : R α → Prop
  | .ok a h => ∀ ι' H' b, Fr ι H ι' H' → Rel c ι' β H' h → Rp ι' β H' a b → Q b H'
  | .ex e h => ∀ ι' H' cls d, Fr ι H ι' H' → Rel c ι' β H' h → RepX c ι' β H' e cls d → W cls d H'
  | .bad => False
noncomputable def bindR (x : R α) (k : α → MH → R γ) : R γ :=
  match x with
  | .ok a h => k a h
  | .ex e h => .ex e h
  | .bad => .bad
noncomputable def tR (c : C) (W : WX) (Rp : List Addr → List Addr → Hp → α → δ → Prop) (r : Lo → MH → R α) : St → Hp → (δ → Hp → Prop) → Prop := fun σ H Q =>
  ∃ ι β mh σm, Rel c ι β H mh ∧ RepL c ι β H σm σ ∧ Post c ι β H Rp Q (fun cls d H' => W cls d σ H') (r σm mh)
theorem tR.mono {c : C} {W : WX} {Rp : List Addr → List Addr → Hp → α → δ → Prop} {r : Lo → MH → R α} {σ : St} {H : Hp} {Q Q' : δ → Hp → Prop} (h : tR c W Rp r σ H Q) (hq : ∀ b H', Q b H' → Q' b H') : tR c W Rp r σ H Q' := by
  obtain ⟨ι, β, mh, σm, rel, rl, p⟩ := h
  refine ⟨ι, β, mh, σm, rel, rl, ?_⟩
  cases e : r σm mh with
  | ok a h => rw [e] at p; exact fun ι' H' b f r q => hq _ _ (p ι' H' b f r q)
  | ex x h => rw [e] at p; exact p
  | bad => rw [e] at p; exact p
theorem Post.fr {c : C} {ι ι1 β : List Addr} {H H1 : Hp} {Rp : List Addr → List Addr → Hp → α → δ → Prop} {Q : δ → Hp → Prop} {W : Value → Option Addr → Hp → Prop} {x : R α} (f : Fr ι H ι1 H1) (h : Post c ι β H Rp Q W x) : Post c ι1 β H1 Rp Q W x := by
  cases x with
  | ok a h' => exact fun ι' H' b g r q => h ι' H' b (f.trans g) r q
  | ex e h' => exact fun ι' H' b d g r q => h ι' H' b d (f.trans g) r q
  | bad => exact h
/-- one part is run, the rest is told -/
theorem run1 {c : C} {W : WX} {Rp : List Addr → List Addr → Hp → α → δ → Prop} {γ' : Type} {Rp' : List Addr → List Addr → Hp → γ → γ' → Prop} {ι β : List Addr} {H : Hp} {mh : MH} {σm : Lo} {σ : St} {ra : Lo → MH → R α} {k : α → MH → R γ} {Q : γ' → Hp → Prop}
    (rel : Rel c ι β H mh) (rl : RepL c ι β H σm σ) (h : Post c ι β H Rp' Q (fun cls d H' => W cls d σ H') (bindR (ra σm mh) k)) :
    tR c W Rp ra σ H (fun b H1 => ∃ ι1 mh1 a, Fr ι H ι1 H1 ∧ Rel c ι1 β H1 mh1 ∧ RepL c ι1 β H1 σm σ ∧ Rp ι1 β H1 a b ∧ Post c ι1 β H1 Rp' Q (fun cls d H' => W cls d σ H') (k a mh1)) := by
  refine ⟨ι, β, mh, σm, rel, rl, ?_⟩
  cases e : ra σm mh with
  | ok a h' =>
    rw [e] at h
    exact fun ι' H' b f r q => ⟨ι', h', a, f, r, rl.mono f, q, Post.fr f h⟩
  | ex x h' => rw [e] at h; exact h
  | bad => rw [e] at h; exact h
end post
abbrev RV (c : C) : List Addr → List Addr → Hp → MV → V → Prop := fun ι β H => RepV c.K ι β H
abbrev RVs (c : C) : List Addr → List Addr → Hp → List MV → List V → Prop := fun ι β H => RepVs c.K ι β H
abbrev RB : List Addr → List Addr → Hp → Bool → Bool → Prop := fun _ _ _ a b => a = b
noncomputable def tE (c : C) (W : WX) (r : EM) : TE := tR c W (RV c) r
noncomputable def tT (c : C) (W : WX) (r : TM) : TT := tR c W RB r
noncomputable def tA (c : C) (W : WX) (r : AM) : TA := tR c W (RVs c) r
noncomputable def PostS (c : C) (ι β : List Addr) (H : Hp) (D : Ends) (W : WX) : SR → Prop
  | .nx σ1 h => ∀ ι' H' σ', Fr ι H ι' H' → Rel c ι' β H' h → RepL c ι' β H' σ1 σ' → D.nx σ' H'
  | .rt v h => ∀ ι' H' u, Fr ι H ι' H' → Rel c ι' β H' h → RepV c.K ι' β H' v u → D.rt u H'
  | .bk σ1 h => ∀ ι' H' σ', Fr ι H ι' H' → Rel c ι' β H' h → RepL c ι' β H' σ1 σ' → D.bk σ' H'
  | .ct σ1 h => ∀ ι' H' σ', Fr ι H ι' H' → Rel c ι' β H' h → RepL c ι' β H' σ1 σ' → D.ct σ' H'
  | .ex e σ1 h => ∀ ι' H' cls d σ', Fr ι H ι' H' → Rel c ι' β H' h → RepL c ι' β H' σ1 σ' → RepX c ι' β H' e cls d → W cls d σ' H'
  | .bad => False
noncomputable def tS (c : C) (W : WX) (r : SM) : TS := fun D σ H =>
  ∃ ι β mh σm, Rel c ι β H mh ∧ RepL c ι β H σm σ ∧ PostS c ι β H D W (r σm mh)
theorem PostS.fr {c : C} {ι ι1 β : List Addr} {H H1 : Hp} {D : Ends} {W : WX} {x : SR} (f : Fr ι H ι1 H1) (h : PostS c ι β H D W x) : PostS c ι1 β H1 D W x := by
  cases x with
  | nx σ h' => exact fun ι' H' b g r q => h ι' H' b (f.trans g) r q
  | rt σ h' => exact fun ι' H' b g r q => h ι' H' b (f.trans g) r q
  | bk σ h' => exact fun ι' H' b g r q => h ι' H' b (f.trans g) r q
  | ct σ h' => exact fun ι' H' b g r q => h ι' H' b (f.trans g) r q
  | ex e σ h' => exact fun ι' H' b d s g r q => h ι' H' b d s (f.trans g) r q
  | bad => exact h
noncomputable def bindS {α : Type} (x : R α) (σ : Lo) (k : α → MH → SR) : SR :=
  match x with
  | .ok a h => k a h
  | .ex e h => .ex e σ h
  | .bad => .bad
/-- a part of a statement is run -/
theorem run1S {α δ : Type} {c : C} {W : WX} {Rp : List Addr → List Addr → Hp → α → δ → Prop} {ι β : List Addr} {H : Hp} {mh : MH} {σm : Lo} {σ : St} {ra : Lo → MH → R α} {k : α → MH → SR} {D : Ends}
    (rel : Rel c ι β H mh) (rl : RepL c ι β H σm σ) (h : PostS c ι β H D W (bindS (ra σm mh) σm k)) :
    tR c W Rp ra σ H (fun b H1 => ∃ ι1 mh1 a, Fr ι H ι1 H1 ∧ Rel c ι1 β H1 mh1 ∧ RepL c ι1 β H1 σm σ ∧ Rp ι1 β H1 a b ∧ PostS c ι1 β H1 D W (k a mh1)) := by
  refine ⟨ι, β, mh, σm, rel, rl, ?_⟩
  cases e : ra σm mh with
  | ok a h' =>
    rw [e] at h
    exact fun ι' H' b f r q => ⟨ι', h', a, f, r, rl.mono f, q, PostS.fr f h⟩
  | ex x h' =>
    rw [e] at h
    exact fun ι' H' cls d f r q => h ι' H' cls d σ f r (rl.mono f) q
  | bad => rw [e] at h; exact h
section
variable {X : Cx}
theorem _root_.L2.PE.wk {e : Expr} {t t' : TE} (h : PE X e t) (w : ∀ σ H Q, t' σ H Q → t σ H Q) : PE X e t' := ⟨fun pins s σ H Q I q => h.run pins s σ H Q I (w σ H Q q)⟩
theorem _root_.L2.PT.wk {e : Expr} {t t' : TT} (h : PT X e t) (w : ∀ σ H Q, t' σ H Q → t σ H Q) : PT X e t' := ⟨fun pins s σ H Q I q => h.run pins s σ H Q I (w σ H Q q)⟩
theorem _root_.L2.PW.wk {e : Expr} {t t' : TT} (h : PW X e t) (w : ∀ σ H Q, t' σ H Q → t σ H Q) : PW X e t' := ⟨fun wh pins s σ H Q I q => h.run wh pins s σ H Q I (w σ H Q q)⟩
theorem _root_.L2.PA.wk {es : List Expr} {t t' : TA} (h : PA X es t) (w : ∀ σ H Q, t' σ H Q → t σ H Q) : PA X es t' := ⟨fun pos pins s σ H Q I q => h.run pos pins s σ H Q I (w σ H Q q)⟩
theorem _root_.L2.PS.wk {st : Stmt} {t t' : TS} (h : PS X st t) (w : ∀ D σ H, t' D σ H → t D σ H) : PS X st t' := ⟨fun pins s σ H D I q => h.run pins s σ H D I (w D σ H q)⟩
theorem _root_.L2.PSs.wk {st : List Stmt} {t t' : TS} (h : PSs X st t) (w : ∀ D σ H, t' D σ H → t D σ H) : PSs X st t' := ⟨fun pins s σ H D I q => h.run pins s σ H D I (w D σ H q)⟩
@[simp] noncomputable def mVar (i : Nat) : EM := fun σ h => match σ[i]? with
  | some (some m) => .ok m h
  | _ => .bad
@[simp] noncomputable def mC (v : MV) : EM := fun _ h => .ok v h
variable {c : C} {W : WX}
theorem e_var (i : Nat) {x : Str} {pos : Pos} (h : PE X (.Name x pos) (tVar i)) (hx : c.fr i = true := by rfl) : PE X (.Name x pos) (tE c W (mVar i)) := by
  refine h.wk fun σ H Q ⟨ι, β, mh, σm, rel, rl, p⟩ => ?_
  unfold mVar at p
  split at p
  · rename_i m e
    obtain ⟨v, e1, q⟩ := rl.val hx m e
    exact ⟨v, e1, p ι H v .refl rel q⟩
  · exact p.elim
/-- a constant of any kind that stands by itself -/
theorem e_c {e : Expr} {m : MV} {v : V} (h : PE X e (tC v)) (r : ∀ ι β H, RepV c.K ι β H m v) : PE X e (tE c W (mC m)) := by
  refine h.wk fun σ H Q ⟨ι, β, mh, σm, rel, rl, p⟩ => ?_
  exact p ι H v .refl rel (r ι β H)
theorem rint {i : Int} : ∀ ι β H, RepV c.K ι β H (.int i) (.int i) := fun _ _ _ => by unfold RepV; rfl
theorem rbl {i : Bool} : ∀ ι β H, RepV c.K ι β H (.bl i) (.bl i) := fun _ _ _ => by unfold RepV; rfl
theorem rnon : ∀ ι β H, RepV c.K ι β H .non .non := fun _ _ _ => by unfold RepV; rfl
theorem rstr {i : Str} : ∀ ι β H, RepV c.K ι β H (.str i) (.str i) := fun _ _ _ => by unfold RepV; rfl
theorem rkt {l : List MV} {a : Addr} {vs : List V} (k : KT c.K a vs) (r : ∀ ι β H, RepVs c.K ι β H l vs) (np : NoSI vs := by intro x i z; simp at z) : ∀ ι β H, RepV c.K ι β H (.tup l) (.ref a) := fun ι β H => by
  unfold RepV; exact ⟨a, vs, rfl, .inr ⟨k, np⟩, r ι β H⟩
@[simp] noncomputable def mNil : AM := fun _ h => .ok [] h
@[simp] noncomputable def mCons (ra : EM) (rs : AM) : AM := fun σ h => bindR (ra σ h) fun a h1 => bindR (rs σ h1) fun as h2 => .ok (a :: as) h2
theorem a_nil : PA X [] (tA c W mNil) := pa_nil.wk fun σ H Q ⟨ι, β, mh, σm, rel, rl, p⟩ => p ι H [] .refl rel .nil
theorem a_cons' {e : Expr} {es : List Expr} {ra : EM} {rs : AM} {σ : St} {H : Hp} {Q : List V → Hp → Prop} (h : tA c W (mCons ra rs) σ H Q) : tCons (tE c W ra) (tA c W rs) σ H Q := by
  obtain ⟨ι, β, mh, σm, rel, rl, p⟩ := h
  refine (run1 rel rl p).mono fun x H1 ⟨ι1, mh1, a, f1, rel1, rl1, ra1, p1⟩ => ?_
  refine (run1 rel1 rl1 p1).mono fun xs H2 ⟨ι2, mh2, as, f2, rel2, rl2, ra2, p2⟩ => ?_
  exact p2 ι2 H2 (x :: xs) .refl rel2 (.cons (ra1.mono f2) ra2)
theorem a_cons {e : Expr} {es : List Expr} {ra : EM} {rs : AM} (ha : PE X e (tE c W ra)) (hs : PA X es (tA c W rs)) (he : starEach (e :: es) X.env = (false, eval e X.env) :: starEach es X.env := by rfl) : PA X (e :: es) (tA c W (mCons ra rs)) :=
  (pa_cons ha hs he).wk fun σ H Q h => a_cons' (e := e) (es := es) h
/-- a mirror operation on values keeps a reading by values -/
noncomputable def P1 (c : C) (r : V → Hp → VK → Prop) (f : MV → MH → R MV) : Prop := ∀ ι β H mh a x Q W, Rel c ι β H mh → RepV c.K ι β H a x → Post c ι β H (RV c) Q W (f a mh) → r x H Q
noncomputable def P2 (c : C) (r : R2) (f : MV → MV → MH → R MV) : Prop := ∀ ι β H mh a b x y Q W, Rel c ι β H mh → RepV c.K ι β H a x → RepV c.K ι β H b y → Post c ι β H (RV c) Q W (f a b mh) → r x y H Q
noncomputable def PN (c : C) (r : List V → Hp → VK → Prop) (f : List MV → MH → R MV) : Prop := ∀ ι β H mh as xs Q W, Rel c ι β H mh → RepVs c.K ι β H as xs → Post c ι β H (RV c) Q W (f as mh) → r xs H Q
@[simp] noncomputable def m1 (f : MV → MH → R MV) (ra : EM) : EM := fun σ h => bindR (ra σ h) f
@[simp] noncomputable def m2 (f : MV → MV → MH → R MV) (ra rb : EM) : EM := fun σ h => bindR (ra σ h) fun a h1 => bindR (rb σ h1) fun b h2 => f a b h2
@[simp] noncomputable def mN (f : List MV → MH → R MV) (rs : AM) : EM := fun σ h => bindR (rs σ h) f
theorem m1_of {r : V → Hp → VK → Prop} {f : MV → MH → R MV} {ra : EM} (hp : P1 c r f) {σ : St} {H : Hp} {Q : VK} (h : tE c W (m1 f ra) σ H Q) : tUn r (tE c W ra) σ H Q := by
  obtain ⟨ι, β, mh, σm, rel, rl, p⟩ := h
  exact (run1 rel rl p).mono fun x H1 ⟨ι1, mh1, a, f1, rel1, rl1, ra1, p1⟩ => hp _ _ _ _ _ _ _ _ rel1 ra1 p1
theorem m2_of {r : R2} {f : MV → MV → MH → R MV} {ra rb : EM} (hp : P2 c r f) {σ : St} {H : Hp} {Q : VK} (h : tE c W (m2 f ra rb) σ H Q) : tOp r (tE c W ra) (tE c W rb) σ H Q := by
  obtain ⟨ι, β, mh, σm, rel, rl, p⟩ := h
  refine (run1 rel rl p).mono fun x H1 ⟨ι1, mh1, a, f1, rel1, rl1, ra1, p1⟩ => ?_
  exact (run1 rel1 rl1 p1).mono fun y H2 ⟨ι2, mh2, b, f2, rel2, rl2, ra2, p2⟩ => hp _ _ _ _ _ _ _ _ _ _ rel2 (ra1.mono f2) ra2 p2
theorem mN_of {r : List V → Hp → VK → Prop} {f : List MV → MH → R MV} {rs : AM} (hp : PN c r f) {σ : St} {H : Hp} {Q : VK} (h : tE c W (mN f rs) σ H Q) : tA c W rs σ H fun xs H1 => r xs H1 Q := by
  obtain ⟨ι, β, mh, σm, rel, rl, p⟩ := h
  exact (run1 rel rl p).mono fun x H1 ⟨ι1, mh1, a, f1, rel1, rl1, ra1, p1⟩ => hp _ _ _ _ _ _ _ _ rel1 ra1 p1
variable {a b d : Expr} {ra rb rd : EM} {pos : Pos}
theorem e_op {op : Operator} {r : R2} {f : MV → MV → MH → R MV} (ho : OpR X (binaryOp op) r) (hp : P2 c r f) (ha : PE X a (tE c W ra)) (hb : PE X b (tE c W rb)) : PE X (.BinOp a op b pos) (tE c W (m2 f ra rb)) :=
  (pe_op ho ha hb).wk fun σ H Q h => m2_of hp h
theorem e_un {op : UnaryOp} {r : V → Hp → VK → Prop} {f : MV → MH → R MV} (ho : UnR X (unaryOp op) r) (hp : P1 c r f) (ha : PE X a (tE c W ra)) : PE X (.UnaryOp op a pos) (tE c W (m1 f ra)) :=
  (pe_un ho ha).wk fun σ H Q h => m1_of hp h
theorem e_cmp {op : CmpOp} {r : R2} {f : MV → MV → MH → R MV} (ho : OpR X (compareOp op) r) (hp : P2 c r f) (ha : PE X a (tE c W ra)) (hb : PE X b (tE c W rb)) (hm : behindInMarks op b = false) : PE X (.Compare a [op] [b] pos) (tE c W (m2 f ra rb)) :=
  (pe_cmpR ho ha hb hm).wk fun σ H Q h => m2_of hp h
/-- a value's truth, a bool -/
@[simp] noncomputable def isB (v : MV) (h : MH) : R Bool := match v with
  | .bl b => .ok b h
  | _ => .bad
@[simp] noncomputable def mB (r : EM) : TM := fun σ h => bindR (r σ h) isB
theorem mB_of {r : EM} {σ : St} {H : Hp} {Q : Bool → Hp → Prop} (h : tT c W (mB r) σ H Q) : tTest (tE c W r) σ H Q := by
  obtain ⟨ι, β, mh, σm, rel, rl, p⟩ := h
  refine (run1 rel rl p).mono fun x H1 ⟨ι1, mh1, a, f1, rel1, rl1, ra1, p1⟩ => ?_
  cases a with
  | bl b =>
    unfold RepV at ra1
    exact ⟨b, ra1, p1 ι1 H1 b .refl rel1 rfl⟩
  | _ => exact p1.elim
theorem t_cmp {op : CmpOp} {r : R2} {f : MV → MV → MH → R MV} (ho : OpR X (compareOp op) r) (hp : P2 c r f) (ha : PE X a (tE c W ra)) (hb : PE X b (tE c W rb)) (hm : behindInMarks op b = false) : PT X (.Compare a [op] [b] pos) (tT c W (mB (m2 f ra rb))) :=
  (pt_cmpR ho ha hb hm).wk fun σ H Q h => m2_of hp (mB_of h)
/-- a op b op' d -/
@[simp] noncomputable def m3c (f g : MV → MV → MH → R MV) (ra rb rd : EM) : EM := fun σ h => bindR (ra σ h) fun a h1 => bindR (rb σ h1) fun b h2 => bindR (f a b h2) fun z h3 => match z with
  | .bl true => bindR (rd σ h3) fun e h4 => g b e h4
  | .bl false => .ok (.bl false) h3
  | _ => .bad
theorem m3c_of {r r' : R2} {f g : MV → MV → MH → R MV} (hp : P2 c r f) (hp' : P2 c r' g) {σ : St} {H : Hp} {Q : VK} (h : tE c W (m3c f g ra rb rd) σ H Q) : tChain r r' (tE c W ra) (tE c W rb) (tE c W rd) σ H Q := by
  obtain ⟨ι, β, mh, σm, rel, rl, p⟩ := h
  refine (run1 rel rl p).mono fun x H1 ⟨ι1, mh1, a, f1, rel1, rl1, ra1, p1⟩ => ?_
  refine (run1 rel1 rl1 p1).mono fun y H2 ⟨ι2, mh2, b, f2, rel2, rl2, ra2, p2⟩ => ?_
  refine hp ι2 β H2 mh2 a b x y _ (fun cls dd H' => W cls dd σ H') rel2 (ra1.mono f2) ra2 ?_
  cases e : f a b mh2 with
  | bad => rw [e] at p2; exact p2
  | ex u h3 => rw [e] at p2; exact p2
  | ok z h3 =>
    rw [e] at p2
    intro ι3 H3 u f3 rel3 rz
    cases z with
    | bl k =>
      unfold RepV at rz
      refine ⟨k, rz, ?_⟩
      cases k with
      | true =>
        rw [if_pos rfl]
        refine (run1 rel3 (rl2.mono f3) (Post.fr f3 p2)).mono fun w H4 ⟨ι4, mh4, e4, f4, rel4, rl4, ra4, p4⟩ => ?_
        exact hp' _ _ _ _ _ _ _ _ _ _ rel4 ((ra2.mono f3).mono f4) ra4 p4
      | false =>
        rw [if_neg Bool.false_ne_true]
        exact p2 ι3 H3 (.bl false) f3 rel3 (rbl _ _ _)
    | _ => exact p2.elim
theorem e_chain {op op' : CmpOp} {r r' : R2} {f g : MV → MV → MH → R MV} (ho : OpR X (compareOp op) r) (hp : P2 c r f) (ho' : OpR X (compareOp op') r') (hp' : P2 c r' g) (ha : PE X a (tE c W ra)) (hb : PE X b (tE c W rb)) (hd : PE X d (tE c W rd))
    (hm : lastMarks [op, op'] [b, d] = false := by with_unfolding_all rfl) : PE X (.Compare a [op, op'] [b, d] pos) (tE c W (m3c f g ra rb rd)) :=
  (pe_chain ho ho' ha hb hd hm).wk fun σ H Q h => m3c_of hp hp' h
theorem t_chain {op op' : CmpOp} {r r' : R2} {f g : MV → MV → MH → R MV} (ho : OpR X (compareOp op) r) (hp : P2 c r f) (ho' : OpR X (compareOp op') r') (hp' : P2 c r' g) (ha : PE X a (tE c W ra)) (hb : PE X b (tE c W rb)) (hd : PE X d (tE c W rd))
    (hm : lastMarks [op, op'] [b, d] = false := by with_unfolding_all rfl) : PT X (.Compare a [op, op'] [b, d] pos) (tT c W (mB (m3c f g ra rb rd))) :=
  (pt_chain ho ho' ha hb hd hm).wk fun σ H Q h => m3c_of hp hp' (mB_of h)
@[simp] noncomputable def mAnd (ra rb : TM) : TM := fun σ h => bindR (ra σ h) fun k h1 => if k = true then rb σ h1 else .ok false h1
@[simp] noncomputable def mOr (ra rb : TM) : TM := fun σ h => bindR (ra σ h) fun k h1 => if k = true then .ok true h1 else rb σ h1
@[simp] noncomputable def mNot (ra : TM) : TM := fun σ h => bindR (ra σ h) fun k h1 => .ok (!k) h1
variable {ta tb : TM} {rest : List Expr}
theorem w_one1 (h : PT X a (tT c W ta)) : PW X (.BoolOp .And [a] pos) (tT c W ta) := pw_and1 h
theorem w_one2 (h : PT X a (tT c W ta)) : PW X (.BoolOp .Or [a] pos) (tT c W ta) := pw_or1 h
theorem w_and (ha : PT X a (tT c W ta)) (hb : PW X (.BoolOp .And (b :: rest) pos) (tT c W tb)) : PW X (.BoolOp .And (a :: b :: rest) pos) (tT c W (mAnd ta tb)) :=
  (pw_and ha hb).wk fun σ H Q ⟨ι, β, mh, σm, rel, rl, p⟩ => by
    refine (run1 rel rl p).mono fun x H1 ⟨ι1, mh1, k, f1, rel1, rl1, ra1, p1⟩ => ?_
    obtain rfl : k = x := ra1
    cases k with
    | true => rw [if_pos rfl] at p1 ⊢; exact ⟨ι1, _, mh1, σm, rel1, rl1, p1⟩
    | false => rw [if_neg Bool.false_ne_true] at p1 ⊢; exact p1 ι1 H1 false .refl rel1 rfl
theorem w_or (ha : PT X a (tT c W ta)) (hb : PW X (.BoolOp .Or (b :: rest) pos) (tT c W tb)) : PW X (.BoolOp .Or (a :: b :: rest) pos) (tT c W (mOr ta tb)) :=
  (pw_or ha hb).wk fun σ H Q ⟨ι, β, mh, σm, rel, rl, p⟩ => by
    refine (run1 rel rl p).mono fun x H1 ⟨ι1, mh1, k, f1, rel1, rl1, ra1, p1⟩ => ?_
    obtain rfl : k = x := ra1
    cases k with
    | false => rw [if_neg Bool.false_ne_true] at p1 ⊢; exact ⟨ι1, _, mh1, σm, rel1, rl1, p1⟩
    | true => rw [if_pos rfl] at p1 ⊢; exact p1 ι1 H1 true .refl rel1 rfl
theorem t_not (ha : PT X a (tT c W ta)) : PT X (.UnaryOp .Not a pos) (tT c W (mNot ta)) :=
  (pt_not ha).wk fun σ H Q ⟨ι, β, mh, σm, rel, rl, p⟩ => by
    refine (run1 rel rl p).mono fun x H1 ⟨ι1, mh1, k, f1, rel1, rl1, ra1, p1⟩ => ?_
    obtain rfl : k = x := ra1
    exact p1 ι1 H1 _ .refl rel1 rfl
/-- as values: all but the last are bools -/
@[simp] noncomputable def mAndV (ra rb : EM) : EM := fun σ h => bindR (ra σ h) fun v h1 => match v with
  | .bl true => rb σ h1
  | .bl false => .ok (.bl false) h1
  | _ => .bad
@[simp] noncomputable def mOrV (ra rb : EM) : EM := fun σ h => bindR (ra σ h) fun v h1 => match v with
  | .bl true => .ok (.bl true) h1
  | .bl false => rb σ h1
  | _ => .bad
@[simp] noncomputable def mNotV (ra : EM) : EM := fun σ h => bindR (ra σ h) fun v h1 => match v with
  | .bl k => .ok (.bl (!k)) h1
  | _ => .bad
theorem e_one {op} (h : PE X a (tE c W ra)) : PE X (.BoolOp op [a] pos) (tE c W ra) := pe_one h
theorem e_and (ha : PE X a (tE c W ra)) (hb : PE X (.BoolOp .And (b :: rest) pos) (tE c W rb)) : PE X (.BoolOp .And (a :: b :: rest) pos) (tE c W (mAndV ra rb)) :=
  (pe_and ha hb).wk fun σ H Q ⟨ι, β, mh, σm, rel, rl, p⟩ => by
    refine (run1 rel rl p).mono fun x H1 ⟨ι1, mh1, v, f1, rel1, rl1, ra1, p1⟩ => ?_
    cases v with
    | bl k =>
      unfold RepV at ra1
      refine ⟨k, ra1, ?_⟩
      cases k with
      | true => rw [if_pos rfl]; exact ⟨ι1, _, mh1, σm, rel1, rl1, p1⟩
      | false => rw [if_neg Bool.false_ne_true]; exact p1 ι1 H1 _ .refl rel1 (rbl _ _ _)
    | _ => exact p1.elim
theorem e_not (ha : PE X a (tE c W ra)) : PE X (.UnaryOp .Not a pos) (tE c W (mNotV ra)) :=
  (pe_not ha).wk fun σ H Q ⟨ι, β, mh, σm, rel, rl, p⟩ => by
    refine (run1 rel rl p).mono fun x H1 ⟨ι1, mh1, v, f1, rel1, rl1, ra1, p1⟩ => ?_
    cases v with
    | bl k =>
      unfold RepV at ra1
      exact ⟨k, ra1, p1 ι1 H1 _ .refl rel1 (rbl _ _ _)⟩
    | _ => exact p1.elim
@[simp] noncomputable def mIf (t : TM) (ra rb : EM) : EM := fun σ h => bindR (t σ h) fun k h1 => if k = true then ra σ h1 else rb σ h1
end
noncomputable def SZ : Nat := 16777216
theorem sz_eq : sizeLine = SZ := by rw [sizeLine_eq]; rfl
section
variable {X : Cx} {c : C} {W : WX} {es : List Expr} {rs : AM} {pos : Pos}
@[simp] noncomputable def mkTup (l : List MV) (h : MH) : R MV := if l.length ≤ SZ then .ok (.tup l) h else .bad
noncomputable def mkLv (l : List MV) (h : MH) : R MV := if l.length ≤ SZ then .ok (.lv l) h else .bad
noncomputable def mkLst (l : List MV) (h : MH) : R MV := if l.length ≤ SZ then .ok (.ref h.length) (h ++ [.lst l]) else .bad
theorem e_tup {x1} (h : PA X es (tA c W rs)) : PE X (.Tuple es x1 pos) (tE c W (mN mkTup rs)) := by
  refine (pe_tup h).wk fun σ H Q hh => ?_
  refine mN_of (r := fun xs H1 Q => xs.length ≤ sizeLine ∧ ∀ p, H1 p = none → Q (.ref p) (upd H1 p (.tup xs))) (fun ι β H mh as xs Q W rel r p => ?_) hh
  unfold mkTup at p
  split at p
  · rename_i hl
    refine ⟨by rw [← r.length, sz_eq]; exact hl, fun q hq => p ι (upd H q (.tup xs)) (.ref q) (Fr.lay rel hq) (rel.lay hq) ?_⟩
    unfold RepV
    refine ⟨q, xs, rfl, .inl ⟨upd_same, rel.fresh hq, fun z => ?_⟩, r.mono (Fr.lay rel hq)⟩
    obtain ⟨o, e, _⟩ := rel.ban q z
    rw [hq] at e; cases e
  · exact p.elim
theorem nban {ι β : List Addr} {H : Hp} {mh : MH} {q : Addr} (rel : Rel c ι β H mh) (hq : H q = none) : q ∉ β := fun z => by
  obtain ⟨o, e, _⟩ := rel.ban q z
  rw [hq] at e; cases e
theorem rep_lv {ι β : List Addr} {H : Hp} {mh : MH} {q : Addr} {as : List MV} {xs : List V} (rel : Rel c ι β H mh) (hq : H q = none) (r : RepVs c.K ι β H as xs) : RepV c.K ι β (upd H q (.lst xs)) (.lv as) (.ref q) := by
  unfold RepV
  exact ⟨q, xs, rfl, ⟨upd_same, rel.fresh hq, nban rel hq⟩, r.mono (Fr.lay rel hq)⟩
theorem rep_tup {ι β : List Addr} {H : Hp} {mh : MH} {q : Addr} {as : List MV} {xs : List V} (rel : Rel c ι β H mh) (hq : H q = none) (r : RepVs c.K ι β H as xs) : RepV c.K ι β (upd H q (.tup xs)) (.tup as) (.ref q) := by
  unfold RepV
  exact ⟨q, xs, rfl, .inl ⟨upd_same, rel.fresh hq, nban rel hq⟩, r.mono (Fr.lay rel hq)⟩
theorem rep_ref {ι β : List Addr} {H : Hp} {mh : MH} {q : Addr} {o : HO} (rel : Rel c ι β H mh) : RepV c.K (ι ++ [q]) β (upd H q o) (.ref mh.length) (.ref q) := by
  unfold RepV
  refine ⟨q, rfl, ?_⟩
  rw [rel.len, List.getElem?_append_right (Nat.le_refl _)]
  simp
theorem e_lv (h : PA X es (tA c W rs)) : PE X (.List es pos) (tE c W (mN mkLv rs)) := by
  refine (pe_lst h).wk fun σ H Q hh => ?_
  refine mN_of (r := fun xs H1 Q => xs.length ≤ sizeLine ∧ ∀ p, H1 p = none → Q (.ref p) (upd H1 p (.lst xs))) (fun ι β H mh as xs Q W rel r p => ?_) hh
  unfold mkLv at p
  split at p
  · rename_i hl
    exact ⟨by rw [← r.length, sz_eq]; exact hl, fun q hq => p ι (upd H q (.lst xs)) (.ref q) (Fr.lay rel hq) (rel.lay hq) (rep_lv rel hq r)⟩
  · exact p.elim
theorem e_lst (h : PA X es (tA c W rs)) : PE X (.List es pos) (tE c W (mN mkLst rs)) := by
  refine (pe_lst h).wk fun σ H Q hh => ?_
  refine mN_of (r := fun xs H1 Q => xs.length ≤ sizeLine ∧ ∀ p, H1 p = none → Q (.ref p) (upd H1 p (.lst xs))) (fun ι β H mh as xs Q W rel r p => ?_) hh
  unfold mkLst at p
  split at p
  · rename_i hl
    refine ⟨by rw [← r.length, sz_eq]; exact hl, fun q hq => p (ι ++ [q]) (upd H q (.lst xs)) (.ref q) (Fr.new rel hq) (rel.new hq ⟨xs, upd_same, r.mono (Fr.new rel hq)⟩) (rep_ref rel)⟩
  · exact p.elim
/-- {} -/
noncomputable def mDict : EM := fun _ h => .ok (.ref h.length) (h ++ [.dct []])
theorem e_dict : PE X (.Dict [] [] pos) (tE c W mDict) :=
  pe_dnewK.wk fun σ H Q ⟨ι, β, mh, σm, rel, rl, p⟩ => fun q hq => p (ι ++ [q]) _ _ (Fr.new rel hq) (rel.new hq ⟨[], upd_same, rfl⟩) (rep_ref rel)
end
section
variable {X : Cx} {c : C} {W : WX} {st : Stmt} {rest : List Stmt} {e : Expr} {re : EM} {pos : Pos}
@[simp] noncomputable def sNil : SM := fun σ h => .nx σ h
@[simp] noncomputable def sSeq (a b : SM) : SM := fun σ h => match a σ h with
  | .nx σ1 h1 => b σ1 h1
  | x => x
theorem ss_nil : PSs X [] (tS c W sNil) := pss_nil.wk fun D σ H ⟨ι, β, mh, σm, rel, rl, p⟩ => p ι H σ .refl rel rl
theorem sSeq_of {r1 r2 : SM} {D : Ends} {σ : St} {H : Hp} (h : tS c W (sSeq r1 r2) D σ H) : tSeq (tS c W r1) (tS c W r2) D σ H := by
  obtain ⟨ι, β, mh, σm, rel, rl, p⟩ := h
  refine ⟨ι, β, mh, σm, rel, rl, ?_⟩
  unfold sSeq at p
  cases e : r1 σm mh with
  | nx σ1 h1 => rw [e] at p; exact fun ι' H' σ' f r rl' => ⟨ι', β, h1, σ1, r, rl', PostS.fr f p⟩
  | rt v h1 => rw [e] at p; exact p
  | bk v h1 => rw [e] at p; exact p
  | ct v h1 => rw [e] at p; exact p
  | ex x v h1 => rw [e] at p; exact p
  | bad => rw [e] at p; exact p
theorem ss_cons {r1 r2 : SM} (h1 : PS X st (tS c W r1)) (h2 : PSs X rest (tS c W r2)) : PSs X (st :: rest) (tS c W (sSeq r1 r2)) := (pss_cons h1 h2).wk fun D σ H h => sSeq_of h
theorem ss_one {r1 : SM} (h1 : PS X st (tS c W r1)) : PSs X [st] (tS c W r1) := pss_one h1
@[simp] noncomputable def sPass : SM := fun σ h => .nx σ h
@[simp] noncomputable def sBreak : SM := fun σ h => .bk σ h
@[simp] noncomputable def sCont : SM := fun σ h => .ct σ h
@[simp] noncomputable def sNever : SM := fun _ _ => .bad
theorem s_never : PS X st (tS c W sNever) := ps_never.wk fun D σ H ⟨ι, β, mh, σm, rel, rl, p⟩ => p
@[simp] noncomputable def sExpr (r : EM) : SM := fun σ h => bindS (r σ h) σ fun _ h1 => .nx σ h1
theorem s_expr (he : PE X e (tE c W re)) (hs : swapsWith e none pos.line X.env = pure false := by rfl) : PS X (.Expr e pos) (tS c W (sExpr re)) :=
  (ps_expr he hs).wk fun D σ H ⟨ι, β, mh, σm, rel, rl, p⟩ =>
    (run1S rel rl p).mono fun x H1 ⟨ι1, mh1, a, f1, rel1, rl1, ra1, p1⟩ => p1 ι1 H1 σ .refl rel1 rl1
@[simp] noncomputable def sRet (r : EM) : SM := fun σ h => bindS (r σ h) σ fun v h1 => .rt v h1
theorem s_ret (he : PE X e (tE c W re)) : PS X (.Return (some e) pos) (tS c W (sRet re)) :=
  (ps_ret he).wk fun D σ H ⟨ι, β, mh, σm, rel, rl, p⟩ =>
    (run1S rel rl p).mono fun x H1 ⟨ι1, mh1, a, f1, rel1, rl1, ra1, p1⟩ => p1 ι1 H1 x .refl rel1 ra1
@[simp] noncomputable def sRetN : SM := fun _ h => .rt .non h
@[simp] noncomputable def sIf (t : TM) (a b : SM) : SM := fun σ h => bindS (t σ h) σ fun k h1 => if k = true then a σ h1 else b σ h1
theorem s_if {q : Expr} {ba bb : List Stmt} {t : TM} {r1 r2 : SM} (hq : PT X q (tT c W t)) (h1 : PSs X ba (tS c W r1)) (h2 : PSs X bb (tS c W r2)) : PS X (.If q ba bb pos) (tS c W (sIf t r1 r2)) :=
  (ps_if hq h1 h2).wk fun D σ H ⟨ι, β, mh, σm, rel, rl, p⟩ => by
    refine (run1S rel rl p).mono fun x H1 ⟨ι1, mh1, k, f1, rel1, rl1, ra1, p1⟩ => ?_
    obtain rfl : k = x := ra1
    cases k with
    | true => rw [if_pos rfl] at p1 ⊢; exact ⟨ι1, _, mh1, σm, rel1, rl1, p1⟩
    | false => rw [if_neg Bool.false_ne_true] at p1 ⊢; exact ⟨ι1, _, mh1, σm, rel1, rl1, p1⟩
/-- name = e -/
@[simp] noncomputable def sSet (i : Nat) (r : EM) : SM := fun σ h => bindS (r σ h) σ fun v h1 => .nx (σ.set i (some v)) h1
theorem s_set {i : Nat} {x : Str} {pos' : Pos} (hN : X.N.Nodup) (hi : X.N[i]? = some x) (hx : Loc X.env.scope x) (he : PE X e (tE c W re)) (hs : swapsWith e (some (.Name x pos')) pos.line X.env = pure false := by rfl) (hf : X.fn x = true ∨ X.env.scope.names.lookup x = some .local := by first | exact .inl rfl | exact .inr rfl) :
    PS X (.Assign [.Name x pos'] e pos) (tS c W (sSet i re)) :=
  (ps_set hN hi hx he hs hf).wk fun D σ H ⟨ι, β, mh, σm, rel, rl, p⟩ =>
    (run1S rel rl p).mono fun v H1 ⟨ι1, mh1, a, f1, rel1, rl1, ra1, p1⟩ => p1 ι1 H1 _ .refl rel1 (rl1.set ra1)
abbrev GM := MV → Lo → MH → R Lo
noncomputable def PostG (c : C) (ι β : List Addr) (H : Hp) (Q : St → Hp → Prop) : R Lo → Prop
  | .ok σ1 h => ∀ ι' H' σ', Fr ι H ι' H' → Rel c ι' β H' h → RepL c ι' β H' σ1 σ' → Q σ' H'
  | _ => False
noncomputable def tG (c : C) (g : GM) : TG := fun v σ H Q => ∃ ι β mh σm m, Rel c ι β H mh ∧ RepL c ι β H σm σ ∧ RepV c.K ι β H m v ∧ PostG c ι β H Q (g m σm mh)
theorem _root_.L2.PG.wk {tg : Expr} {t t' : TG} (h : PG X tg t) (w : ∀ v σ H Q, t' v σ H Q → t v σ H Q) : PG X tg t' := ⟨fun pins s σ H v u Q I r q => h.run pins s σ H v u Q I r (w v σ H Q q)⟩
@[simp] noncomputable def gmName (i : Nat) : GM := fun v σ h => .ok (σ.set i (some v)) h
theorem g_name {i : Nat} {x : Str} (hN : X.N.Nodup) (hi : X.N[i]? = some x) (hx : Loc X.env.scope x) (hf : X.fn x = true ∨ X.env.scope.names.lookup x = some .local := by first | exact .inl rfl | exact .inr rfl) : PG X (.Name x pos) (tG c (gmName i)) :=
  (pg_name hN hi hx hf).wk fun v σ H Q ⟨ι, β, mh, σm, m, rel, rl, rv, p⟩ => p ι H _ .refl rel (rl.set rv)
abbrev GMs := List MV → Lo → MH → R Lo
noncomputable def tGs (c : C) (g : GMs) : TGs := fun vs σ H Q => ∃ ι β mh σm ms, Rel c ι β H mh ∧ RepL c ι β H σm σ ∧ RepVs c.K ι β H ms vs ∧ PostG c ι β H Q (g ms σm mh)
theorem _root_.L2.PGs.wk {tgs : List Expr} {t t' : TGs} (h : PGs X tgs t) (w : ∀ v σ H Q, t' v σ H Q → t v σ H Q) : PGs X tgs t' := ⟨fun pins s σ H v u Q I r q => h.run pins s σ H v u Q I r (w v σ H Q q)⟩
@[simp] noncomputable def gmNil : GMs := fun vs σ h => match vs with
  | [] => .ok σ h
  | _ => .bad
@[simp] noncomputable def gmCons (g : GM) (gs : GMs) : GMs := fun vs σ h => match vs with
  | v :: r => match g v σ h with
    | .ok σ1 h1 => gs r σ1 h1
    | _ => .bad
  | [] => .bad
theorem gs_nil : PGs X [] (tGs c gmNil) := pgs_nil.wk fun v σ H Q ⟨ι, β, mh, σm, ms, rel, rl, rv, p⟩ => by
  cases ms with
  | nil => exact ⟨rv.nil_iff, p ι H σ .refl rel rl⟩
  | cons a b => exact p.elim
theorem gs_cons {es : List Expr} {g : GM} {gs : GMs} (h1 : PG X e (tG c g)) (h2 : PGs X es (tGs c gs)) (hs : (assignEach (e :: es) X.env).map (·.2) = assign e X.env :: (assignEach es X.env).map (·.2) := by rfl) : PGs X (e :: es) (tGs c (gmCons g gs)) :=
  (pgs_cons h1 h2 hs).wk fun vs σ H Q ⟨ι, β, mh, σm, ms, rel, rl, rv, p⟩ => by
    cases ms with
    | nil => exact p.elim
    | cons m ms =>
      obtain ⟨v, r, rfl, rv1, rv2⟩ := rv.cons_iff
      refine ⟨v, r, rfl, ι, β, mh, σm, m, rel, rl, rv1, ?_⟩
      unfold gmCons at p
      cases e : g m σm mh with
      | ok σ1 h1 =>
        simp only [e] at p
        exact fun ι' H' σ' f rel' rl' => ⟨ι', β, h1, σ1, ms, rel', rl', rv2.mono f, by
          cases e2 : gs ms σ1 h1 with
          | ok σ2 h2 => rw [e2] at p; exact fun ι2 H2 σ2 f2 r2 l2 => p ι2 H2 σ2 (f.trans f2) r2 l2
          | ex a b => rw [e2] at p; exact p
          | bad => rw [e2] at p; exact p⟩
      | ex a b => simp only [e] at p; exact p.elim
      | bad => simp only [e] at p; exact p.elim
@[simp] noncomputable def gmTup (gs : GMs) (n : Nat) : GM := fun v σ h => match v with
  | .tup l => if l.length = n then gs l σ h else .bad
  | _ => .bad
theorem RepV.tup_iff {K : PySem.W.Frag} {ι β : List Addr} {H : Hp} {l : List MV} {v : V} (h : RepV K ι β H (.tup l) v) : ∃ a vs, v = .ref a ∧ SqT K H a vs ∧ RepVs K ι β H l vs := by
  unfold RepV at h
  obtain ⟨a, vs, e, q, r⟩ := h
  refine ⟨a, vs, e, ?_, r⟩
  rcases q with ⟨q, _⟩ | q
  · exact .inl (.inl q)
  · exact .inr q.1
theorem g_tup {es : List Expr} {k n : Nat} {gs : GMs} (hc : X.calm = true) (hK : X.K = c.K) (h : PGs X es (tGs c gs)) (hn : (assignEach es X.env).length = n := by rfl) (hst : (assignEach es X.env).findIdx? (·.1) = none := by rfl) : PG X (.Tuple es k pos) (tG c (gmTup gs n)) :=
  (pg_tup hc h hn hst).wk fun v σ H Q ⟨ι, β, mh, σm, m, rel, rl, rv, p⟩ => by
    cases m with
    | tup l =>
      obtain ⟨a, vs, rfl, q, r⟩ := rv.tup_iff
      unfold gmTup at p
      simp only at p
      split at p
      · rename_i hl
        exact ⟨a, vs, rfl, by rw [hK]; exact q, by rw [← r.length]; exact hl, ι, β, mh, σm, l, rel, rl, r, p⟩
      · exact p.elim
    | _ => exact p.elim
@[simp] noncomputable def sAsg (r : EM) (g : GM) : SM := fun σ h => bindS (r σ h) σ fun v h1 => match g v σ h1 with
  | .ok σ1 h2 => .nx σ1 h2
  | _ => .bad
theorem s_asg {tg : Expr} {g : GM} (he : PE X e (tE c W re)) (hg : PG X tg (tG c g)) (hs : swapsWithSole [tg] e pos.line X.env = pure false := by rfl) (hw : swappedStores [tg] e X.env = pure none := by rfl)
    (h1 : (assignEach [tg] X.env).map (·.2) = [assign tg X.env] := by rfl) : PS X (.Assign [tg] e pos) (tS c W (sAsg re g)) :=
  (ps_asg he hg hs hw h1).wk fun D σ H ⟨ι, β, mh, σm, rel, rl, p⟩ =>
    (run1S rel rl p).mono fun v H1 ⟨ι1, mh1, a, f1, rel1, rl1, ra1, p1⟩ => by
      refine ⟨ι1, β, mh1, σm, a, rel1, rl1, ra1, ?_⟩
      cases e : g a σm mh1 with
      | ok σ1 h1 => simp only [e] at p1; exact p1
      | ex a b => simp only [e] at p1; exact p1
      | bad => simp only [e] at p1; exact p1
end
end MP
namespace MP
open PySem PySem.Spec PyProof.Rows L2
mutual
noncomputable def beqV : MV → MV → Bool
  | .non, .non => true
  | .bl a, .bl b => a == b
  | .int a, .int b => decide (a = b)
  | .str a, .str b => decide (a = b)
  | .tup a, .tup b => beqVs a b
  | .lv a, .lv b => beqVs a b
  | .dv a a', .dv b b' => beqVs a b && beqVs a' b'
  | .fz a, .fz b => beqVs a b
  | .ref a, .ref b => Nat.beq a b
  | .exv n k a, .exv m j b => Nat.beq n m && (decide (k = j) && beqVs a b)
  | .ov ks ws k w, .ov ks' ws' k' w' => decide (ks = ks') && (beqVs ws ws' && (beqV k k' && beqV w w'))
  | _, _ => false
noncomputable def beqVs : List MV → List MV → Bool
  | [], [] => true
  | a :: l, b :: r => beqV a b && beqVs l r
  | _, _ => false
end
mutual
theorem beqV_eq : ∀ {a b : MV}, beqV a b = true → a = b
  | .non, b, h => by cases b <;> simp_all [beqV]
  | .bl a, b, h => by cases b <;> simp_all [beqV]
  | .int a, b, h => by cases b <;> simp_all [beqV]
  | .str a, b, h => by cases b <;> simp_all [beqV]
  | .tup a, b, h => by cases b <;> simp_all [beqV]; exact beqVs_eq h
  | .lv a, b, h => by cases b <;> simp_all [beqV]; exact beqVs_eq h
  | .dv a a', b, h => by cases b <;> simp_all [beqV]; exact ⟨beqVs_eq h.1, beqVs_eq h.2⟩
  | .fz a, b, h => by cases b <;> simp_all [beqV]; exact beqVs_eq h
  | .ref a, b, h => by cases b <;> simp_all [beqV]
  | .exv n k a, b, h => by cases b <;> simp_all [beqV]; exact beqVs_eq h.2.2
  | .ov ks ws k w, b, h => by cases b <;> simp_all [beqV]; exact ⟨beqVs_eq h.2.1, beqV_eq h.2.2.1, beqV_eq h.2.2.2⟩
theorem beqVs_eq : ∀ {a b : List MV}, beqVs a b = true → a = b
  | [], b, h => by cases b <;> simp_all [beqVs]
  | x :: l, b, h => by
    cases b with
    | nil => simp [beqVs] at h
    | cons y r =>
      simp only [beqVs, Bool.and_eq_true] at h
      rw [beqV_eq h.1, beqVs_eq h.2]
end
mutual
@[simp] theorem beqV_self : ∀ a : MV, beqV a a = true
  | .non => rfl
  | .bl a => by simp [beqV]
  | .int a => by simp [beqV]
  | .str a => by simp [beqV]
  | .tup a => by simp [beqV, beqVs_self a]
  | .lv a => by simp [beqV, beqVs_self a]
  | .dv a b => by simp [beqV, beqVs_self a, beqVs_self b]
  | .fz a => by simp [beqV, beqVs_self a]
  | .ref a => by simp [beqV]
  | .exv n k a => by simp [beqV, beqVs_self a]
  | .ov ks ws k w => by simp [beqV, beqVs_self ws, beqV_self k, beqV_self w]
@[simp] theorem beqVs_self : ∀ a : List MV, beqVs a a = true
  | [] => rfl
  | x :: l => by simp [beqVs, beqV_self x, beqVs_self l]
end
noncomputable def beqKV : List (MV × MV) → List (MV × MV) → Bool
  | [], [] => true
  | (a, b) :: l, (a', b') :: r => beqV a a' && (beqV b b' && beqKV l r)
  | _, _ => false
noncomputable def beqFs : List (Str × MV) → List (Str × MV) → Bool
  | [], [] => true
  | (a, b) :: l, (a', b') :: r => decide (a = a') && (beqV b b' && beqFs l r)
  | _, _ => false
theorem beqKV_eq : ∀ {a b : List (MV × MV)}, beqKV a b = true → a = b
  | [], b, h => by cases b <;> simp_all [beqKV]
  | (x, y) :: l, b, h => by
    cases b with
    | nil => simp [beqKV] at h
    | cons z r =>
      obtain ⟨z1, z2⟩ := z
      simp only [beqKV, Bool.and_eq_true] at h
      rw [beqV_eq h.1, beqV_eq h.2.1, beqKV_eq h.2.2]
@[simp] theorem beqKV_self : ∀ a : List (MV × MV), beqKV a a = true
  | [] => rfl
  | (x, y) :: l => by simp [beqKV, beqKV_self l]
theorem beqFs_eq : ∀ {a b : List (Str × MV)}, beqFs a b = true → a = b
  | [], b, h => by cases b <;> simp_all [beqFs]
  | (x, y) :: l, b, h => by
    cases b with
    | nil => simp [beqFs] at h
    | cons z r =>
      obtain ⟨z1, z2⟩ := z
      simp only [beqFs, Bool.and_eq_true, decide_eq_true_eq] at h
      rw [h.1, beqV_eq h.2.1, beqFs_eq h.2.2]
@[simp] theorem beqFs_self : ∀ a : List (Str × MV), beqFs a a = true
  | [] => rfl
  | (x, y) :: l => by simp [beqFs, beqFs_self l]
noncomputable def beqO : MO → MO → Bool
  | .lst a, .lst b => beqVs a b
  | .dct a, .dct b => beqKV a b
  | .fdc a, .fdc b => beqKV a b
  | .odc ks ws k w, .odc ks' ws' k' w' => decide (ks = ks') && (beqVs ws ws' && (beqV k k' && beqV w w'))
  | .dtt a, .dtt b => beqKV a b
  | .fdt a, .fdt b => beqKV a b
  | .ins c a, .ins d b => Nat.beq c d && beqFs a b
  | _, _ => false
theorem beqO_eq : ∀ {a b : MO}, beqO a b = true → a = b
  | .lst a, b, h => by cases b <;> simp_all [beqO]; exact beqVs_eq h
  | .dct a, b, h => by cases b <;> simp_all [beqO]; exact beqKV_eq h
  | .fdc a, b, h => by cases b <;> simp_all [beqO]; exact beqKV_eq h
  | .odc ks ws k w, b, h => by cases b <;> simp_all [beqO]; exact ⟨beqVs_eq h.2.1, beqV_eq h.2.2.1, beqV_eq h.2.2.2⟩
  | .dtt a, b, h => by cases b <;> simp_all [beqO]; exact beqKV_eq h
  | .fdt a, b, h => by cases b <;> simp_all [beqO]; exact beqKV_eq h
  | .ins n a, b, h => by
    cases b <;> simp_all [beqO]
    exact beqFs_eq h.2
@[simp] theorem beqO_self (a : MO) : beqO a a = true := by cases a <;> simp [beqO]
noncomputable def beqH : MH → MH → Bool
  | [], [] => true
  | a :: l, b :: r => beqO a b && beqH l r
  | _, _ => false
theorem beqH_eq : ∀ {a b : MH}, beqH a b = true → a = b
  | [], b, h => by cases b <;> simp_all [beqH]
  | x :: l, b, h => by
    cases b with
    | nil => simp [beqH] at h
    | cons y r =>
      simp only [beqH, Bool.and_eq_true] at h
      rw [beqO_eq h.1, beqH_eq h.2]
@[simp] theorem beqH_self : ∀ a : MH, beqH a a = true
  | [] => rfl
  | x :: l => by simp [beqH, beqH_self l]
mutual
noncomputable def clV (n : Nat) : MV → Bool
  | .tup l => clVs n l
  | .lv l => clVs n l
  | .dv _ ws => clVs n ws
  | .fz l => clVs n l
  | .ref m => decide (m < n)
  | .exv _ _ l => clVs n l
  | .ov _ ws k w => clVs n ws && (clV n k && clV n w)
  | _ => true
noncomputable def clVs (n : Nat) : List MV → Bool
  | [] => true
  | a :: l => clV n a && clVs n l
end
noncomputable def clKV (n : Nat) : List (MV × MV) → Bool
  | [] => true
  | (_, b) :: l => clV n b && clKV n l
noncomputable def clFs (n : Nat) : List (Str × MV) → Bool
  | [] => true
  | (_, b) :: l => clV n b && clFs n l
noncomputable def clO (n : Nat) : MO → Bool
  | .lst l => clVs n l
  | .dct l => clKV n l
  | .fdc l => clKV n l
  | .odc _ ws k w => clVs n ws && (clV n k && clV n w)
  | .dtt l => clKV n l
  | .fdt l => clKV n l
  | .ins _ l => clFs n l
noncomputable def clH (n : Nat) : MH → Bool
  | [] => true
  | a :: l => clO n a && clH n l
noncomputable def clL (n : Nat) : Lo → Bool
  | [] => true
  | some a :: l => clV n a && clL n l
  | none :: l => clL n l
section
variable {K : PySem.W.Frag} {ι ι2 β : List Addr} {H : Hp} {n : Nat}
theorem take_get {m : Nat} {a : Addr} (h : ι[m]? = some a) (hm : m < n) : (ι.take n)[m]? = some a := by
  rw [List.getElem?_take_of_lt hm]; exact h
theorem not_take {a : Addr} (h : a ∉ ι) : a ∉ ι.take n := fun z => h (List.mem_of_mem_take z)
/-- ι2 has the first n of ι, and of ι alone -/
structure Sk (n : Nat) (ι ι2 : List Addr) : Prop where
  sub : ∀ a, a ∈ ι2 → a ∈ ι
  get : ∀ (m : Nat) a, m < n → ι[m]? = some a → ι2[m]? = some a
theorem Sk.take' : Sk n ι (ι.take n) := ⟨fun a h => List.mem_of_mem_take h, fun m a hm h => take_get h hm⟩
theorem Sk.out (k : Sk n ι ι2) {a : Addr} (h : a ∉ ι) : a ∉ ι2 := fun z => h (k.sub a z)
mutual
theorem RepV.shrink (sk : Sk n ι ι2) : ∀ {m : MV} {v : V}, clV n m = true → RepV K ι β H m v → RepV K ι2 β H m v
  | .non, _, _, h => by unfold RepV at h ⊢; exact h
  | .bl _, _, _, h => by unfold RepV at h ⊢; exact h
  | .int _, _, _, h => by unfold RepV at h ⊢; exact h
  | .str _, _, _, h => by unfold RepV at h ⊢; exact h
  | .tup l, _, cl, h => by
    unfold RepV at h ⊢
    unfold clV at cl
    obtain ⟨a, vs, e, q, r⟩ := h
    refine ⟨a, vs, e, ?_, RepVs.shrink sk cl r⟩
    rcases q with ⟨q, x, y⟩ | q
    · exact .inl ⟨q, sk.out x, y⟩
    · exact .inr q
  | .lv l, _, cl, h => by
    unfold RepV at h ⊢
    unfold clV at cl
    obtain ⟨a, vs, e, ⟨q, x, y⟩, r⟩ := h
    exact ⟨a, vs, e, ⟨q, sk.out x, y⟩, RepVs.shrink sk cl r⟩
  | .dv ks ws, _, cl, h => by
    unfold RepV at h ⊢
    unfold clV at cl
    obtain ⟨a, l, e, ⟨q, x, y⟩, k, r⟩ := h
    exact ⟨a, l, e, ⟨q, sk.out x, y⟩, k, RepVs.shrink sk cl r⟩
  | .fz l, _, cl, h => by
    unfold RepV at h ⊢
    unfold clV at cl
    obtain ⟨a, vs, e, q, r⟩ := h
    refine ⟨a, vs, e, ?_, RepVs.shrink sk cl r⟩
    rcases q with ⟨q, x, y⟩ | q
    · exact .inl ⟨q, sk.out x, y⟩
    · exact .inr q
  | .ref m, _, cl, h => by
    unfold RepV at h ⊢
    unfold clV at cl
    obtain ⟨a, e, q⟩ := h
    exact ⟨a, e, sk.get _ _ (of_decide_eq_true cl) q⟩
  | .exv _ _ _, _, _, h => by unfold RepV at h ⊢; exact h
  | .ov ks ws k w, _, cl, h => by
    unfold RepV at h ⊢
    unfold clV at cl
    rw [Bool.and_eq_true, Bool.and_eq_true] at cl
    obtain ⟨a, o, u, l, kv, hk, y, e, ⟨q, nu, x, nb⟩, sm, od, ek, r1, r2, r3⟩ := h
    exact ⟨a, o, u, l, kv, hk, y, e, ⟨q, nu, sk.out x, nb⟩, sm, od, ek, RepVs.shrink sk cl.1 r1, RepV.shrink sk cl.2.1 r2, RepV.shrink sk cl.2.2 r3⟩
theorem RepVs.shrink (sk : Sk n ι ι2) : ∀ {l : List MV} {vs : List V}, clVs n l = true → RepVs K ι β H l vs → RepVs K ι2 β H l vs
  | [], _, _, h => by unfold RepVs at h ⊢; exact h
  | m :: l, _, cl, h => by
    unfold clVs at cl
    rw [Bool.and_eq_true] at cl
    obtain ⟨v, r, e, q, t⟩ := h.cons_iff
    subst e
    exact .cons (RepV.shrink sk cl.1 q) (RepVs.shrink sk cl.2 t)
end
theorem RepKV.shrink (sk : Sk n ι ι2) : ∀ {l : List (MV × MV)} {r : List (Key × V)}, clKV n l = true → RepKV K ι β H l r → RepKV K ι2 β H l r
  | [], _, _, h => h
  | _ :: _, _, cl, h => by
    unfold clKV at cl
    rw [Bool.and_eq_true] at cl
    obtain ⟨k', v, r', e, a, b, c⟩ := h
    exact ⟨k', v, r', e, a, b.shrink sk cl.1, RepKV.shrink sk cl.2 c⟩
theorem RepFs.shrink (sk : Sk n ι ι2) : ∀ {l : List (Str × MV)} {r : List (Str × V)}, clFs n l = true → RepFs K ι β H l r → RepFs K ι2 β H l r
  | [], _, _, h => h
  | _ :: _, _, cl, h => by
    unfold clFs at cl
    rw [Bool.and_eq_true] at cl
    obtain ⟨v, r', e, b, c⟩ := h
    exact ⟨v, r', e, b.shrink sk cl.1, RepFs.shrink sk cl.2 c⟩
theorem RepTV.shrink (sk : Sk n ι ι2) : ∀ {l : List (MV × MV)} {r : List (List Key × V)}, clKV n l = true → RepTV K ι β H l r → RepTV K ι2 β H l r
  | [], _, _, h => h
  | _ :: _, _, cl, h => by
    unfold clKV at cl
    rw [Bool.and_eq_true] at cl
    obtain ⟨k', v, l', e, ek, b, t⟩ := h
    exact ⟨k', v, l', e, ek, b.shrink sk cl.1, RepTV.shrink sk cl.2 t⟩
theorem RepO.shrink {c : C} {a : Addr} {o : MO} (sk : Sk n ι ι2) (cl : clO n o = true) (h : RepO c ι β H a o) : RepO c ι2 β H a o := by
  cases o with
  | lst l => obtain ⟨vs, q, r⟩ := h; exact ⟨vs, q, r.shrink sk cl⟩
  | dct l => obtain ⟨vs, q, r⟩ := h; exact ⟨vs, q, r.shrink sk cl⟩
  | fdc l => obtain ⟨o, vs, q, r⟩ := h; exact ⟨o, vs, q, r.shrink sk cl⟩
  | odc ks ws k w =>
    obtain ⟨o, u, l, kv, hk, y, q, nu, sm, od, ek, r1, r2, r3⟩ := h
    unfold clO at cl
    rw [Bool.and_eq_true, Bool.and_eq_true] at cl
    exact ⟨o, u, l, kv, hk, y, q, nu, sm, od, ek, r1.shrink sk cl.1, r2.shrink sk cl.2.1, r3.shrink sk cl.2.2⟩
  | dtt l => obtain ⟨vs, q, r⟩ := h; exact ⟨vs, q, r.shrink sk cl⟩
  | fdt l => obtain ⟨o, vs, q, r⟩ := h; exact ⟨o, vs, q, r.shrink sk cl⟩
  | ins m fs => obtain ⟨dx, l, q, r⟩ := h; exact ⟨dx, l, q, r.shrink sk cl⟩
theorem clH_get : ∀ {h : MH} {m : Nat} {o : MO}, clH n h = true → h[m]? = some o → clO n o = true
  | [], _, _, _, e => by simp at e
  | _ :: _, 0, _, cl, e => by
    unfold clH at cl
    rw [Bool.and_eq_true] at cl
    simp at e; subst e; exact cl.1
  | _ :: _, m + 1, _, cl, e => by
    unfold clH at cl
    rw [Bool.and_eq_true] at cl
    exact clH_get cl.2 (by simpa using e)
theorem clL_get : ∀ {σ : Lo} {i : Nat} {m : MV}, clL n σ = true → σ[i]? = some (some m) → clV n m = true
  | [], _, _, _, e => by simp at e
  | some a :: _, 0, _, cl, e => by
    unfold clL at cl
    rw [Bool.and_eq_true] at cl
    simp at e; subst e; exact cl.1
  | none :: _, 0, _, cl, e => by simp at e
  | some a :: _, i + 1, _, cl, e => by
    unfold clL at cl
    rw [Bool.and_eq_true] at cl
    exact clL_get cl.2 (by simpa using e)
  | none :: _, i + 1, _, cl, e => by
    unfold clL at cl
    exact clL_get cl (by simpa using e)
theorem clFs_zip : ∀ {ks : List Str} {vs : List MV}, clVs n vs = true → clFs n (ks.zip vs) = true
  | [], _, _ => rfl
  | _ :: _, [], _ => rfl
  | k :: ks, v :: vs, cl => by
    unfold clVs at cl
    rw [Bool.and_eq_true] at cl
    show (clV n v && clFs n (ks.zip vs)) = true
    rw [cl.1, clFs_zip cl.2]; rfl
theorem RepE.shrink {c : C} {a : Addr} {d : Nat × Option Addr} {m : MV} {v : V} (sk : Sk n ι ι2) (cl : clV n m = true) (h : RepE c ι β H a d m v) : RepE c ι2 β H a d m v := by
  cases m with
  | exv k ks vs =>
    obtain ⟨e, en, q⟩ := h
    refine ⟨e, en, ?_⟩
    rcases q with q | ⟨dd, gs, ed, ⟨q, n, nb⟩, r⟩
    · exact .inl q
    · exact .inr ⟨dd, gs, ed, ⟨q, sk.out n, nb⟩, r.shrink sk (clFs_zip (by unfold clV at cl; exact cl))⟩
  | _ => exact h.elim
theorem RepL.shrink {c : C} {σm : Lo} {σ : St} (sk : Sk n ι ι2) (cl : clL n σm = true) (r : RepL c ι β H σm σ) : RepL c ι2 β H σm σ := ⟨r.len, fun i m e => by
  obtain ⟨v, e1, q⟩ := r.all i m e
  exact ⟨v, e1, q.imp (fun q => q.shrink sk (clL_get cl e)) fun ⟨a, d, x, q⟩ => ⟨a, d, x, q.shrink sk (clL_get cl e)⟩⟩⟩
theorem Rel.shrink {c : C} {mh : MH} (cl : clH n (mh.take n) = true) (r : Rel c ι β H mh) : Rel c (ι.take n) β H (mh.take n) := by
  refine ⟨by simp [r.len], r.nd.sublist (List.take_sublist _ _), fun b hb => ?_, fun m o e => ?_⟩
  · obtain ⟨o, e, x, y⟩ := r.ban b hb
    exact ⟨o, e, not_take x, y⟩
  · have hm : m < n := by
      have := (List.getElem?_eq_some_iff.mp e).1
      rw [List.length_take] at this
      omega
    have e' : mh[m]? = some o := by rw [List.getElem?_take_of_lt hm] at e; exact e
    obtain ⟨a, e1, q⟩ := r.obj m o e'
    exact ⟨a, take_get e1 hm, q.shrink Sk.take' (clH_get cl e)⟩
end
section
variable {c : C} {ι β : List Addr} {H : Hp} {n : Nat}
mutual
theorem RepV.clean : ∀ {m : MV} {v : V}, RepV c.K ι β H m v → clV ι.length m = true
  | .non, _, _ => rfl
  | .bl _, _, _ => rfl
  | .int _, _, _ => rfl
  | .str _, _, _ => rfl
  | .tup l, _, h => by
    unfold RepV at h; unfold clV
    obtain ⟨a, vs, e, q, r⟩ := h
    exact RepVs.clean r
  | .lv l, _, h => by
    unfold RepV at h; unfold clV
    obtain ⟨a, vs, e, q, r⟩ := h
    exact RepVs.clean r
  | .dv ks ws, _, h => by
    unfold RepV at h; unfold clV
    obtain ⟨a, l, e, q, k, r⟩ := h
    exact RepVs.clean r
  | .fz l, _, h => by
    unfold RepV at h; unfold clV
    obtain ⟨a, vs, e, q, r⟩ := h
    exact RepVs.clean r
  | .ref m, _, h => by
    unfold RepV at h; unfold clV
    obtain ⟨a, e, q⟩ := h
    exact decide_eq_true (List.getElem?_eq_some_iff.mp q).1
  | .exv _ _ _, _, h => by unfold RepV at h; unfold clV; rw [h.2.1]; rfl
  | .ov ks ws k w, _, h => by
    unfold RepV at h; unfold clV
    obtain ⟨a, o, u, l, kv, hk, y, e, _, sm, od, ek, r1, r2, r3⟩ := h
    rw [RepVs.clean r1, RepV.clean r2, RepV.clean r3]; rfl
theorem RepVs.clean : ∀ {l : List MV} {vs : List V}, RepVs c.K ι β H l vs → clVs ι.length l = true
  | [], _, _ => rfl
  | m :: l, _, h => by
    obtain ⟨v, r, e, q, t⟩ := h.cons_iff
    unfold clVs
    rw [RepV.clean q, RepVs.clean t]; rfl
end
theorem RepKV.clean : ∀ {l : List (MV × MV)} {r : List (Key × V)}, RepKV c.K ι β H l r → clKV ι.length l = true
  | [], _, _ => rfl
  | _ :: _, _, h => by
    obtain ⟨k', v, r', e, a, b, t⟩ := h
    unfold clKV
    rw [b.clean, RepKV.clean t]; rfl
theorem RepFs.clean : ∀ {l : List (Str × MV)} {r : List (Str × V)}, RepFs c.K ι β H l r → clFs ι.length l = true
  | [], _, _ => rfl
  | _ :: _, _, h => by
    obtain ⟨v, r', e, b, t⟩ := h
    unfold clFs
    rw [b.clean, RepFs.clean t]; rfl
theorem RepTV.clean : ∀ {l : List (MV × MV)} {r : List (List Key × V)}, RepTV c.K ι β H l r → clKV ι.length l = true
  | [], _, _ => rfl
  | _ :: _, _, h => by
    obtain ⟨k', v, l', e, ek, b, t⟩ := h
    unfold clKV
    rw [b.clean, RepTV.clean t]; rfl
theorem RepO.clean {a : Addr} {o : MO} (h : RepO c ι β H a o) : clO ι.length o = true := by
  cases o with
  | lst l => obtain ⟨vs, q, r⟩ := h; exact r.clean
  | dct l => obtain ⟨vs, q, r⟩ := h; exact r.clean
  | fdc l => obtain ⟨o, vs, q, r⟩ := h; exact r.clean
  | odc ks ws k w =>
    obtain ⟨o, u, l, kv, hk, y, q, nu, sm, od, ek, r1, r2, r3⟩ := h
    show (clVs ι.length ws && (clV ι.length k && clV ι.length w)) = true
    rw [r1.clean, r2.clean, r3.clean]; rfl
  | dtt l => obtain ⟨vs, q, r⟩ := h; exact r.clean
  | fdt l => obtain ⟨o, vs, q, r⟩ := h; exact r.clean
  | ins m fs => obtain ⟨dx, l, q, r⟩ := h; exact r.clean
theorem clH_of : ∀ {h : MH}, (∀ (m : Nat) o, h[m]? = some o → clO n o = true) → clH n h = true
  | [], _ => rfl
  | a :: l, q => by
    unfold clH
    rw [q 0 a rfl, clH_of (h := l) fun m o e => q (m + 1) o (by simpa using e)]; rfl
theorem Rel.clean {mh : MH} (r : Rel c ι β H mh) : clH mh.length mh = true := clH_of fun m o e => by
  obtain ⟨a, _, q⟩ := r.obj m o e
  rw [r.len]; exact q.clean
end
noncomputable def mapO {α γ : Type} (f : α → Option γ) : List α → Option (List γ)
  | [] => some []
  | a :: l => match f a with
    | none => none
    | some b => match mapO f l with
      | none => none
      | some r => some (b :: r)
noncomputable def frV (h : MH) (n : Nat) : Nat → MV → Option MV
  | 0, m => if clV n m then some m else none
  | f + 1, m => if clV n m then some m else match m with
    | .tup l => (mapO (frV h n f) l).map .tup
    | .lv l => (mapO (frV h n f) l).map .lv
    | .dv ks ws => (mapO (frV h n f) ws).map (.dv ks)
    | .ref k => match h[k]? with
      | some (.lst l) => (mapO (frV h n f) l).map .lv
      | some (.dct kvs) => (mapO (frV h n f) (kvs.map (·.2))).map (.dv (kvs.map (·.1)))
      | some (.fdc kvs) => (mapO (frV h n f) (kvs.map (·.2))).map (.dv (kvs.map (·.1)))
      | some (.odc ks ws a b) => match mapO (frV h n f) ws, frV h n f a, frV h n f b with
        | some ws', some a', some b' => some (.ov ks ws' a' b')
        | _, _, _ => none
      | _ => none
    | _ => none
section
variable {c : C} {ι β : List Addr} {H : Hp} {n : Nat} {mh : MH}
theorem RepKV.split : ∀ {l : List (MV × MV)} {r : List (Key × V)}, RepKV c.K ι β H l r → RepKs (l.map (·.1)) (r.map (·.1)) ∧ RepVs c.K ι β H (l.map (·.2)) (r.map (·.2))
  | [], r, h => by
    have e : r = [] := h
    subst e
    exact ⟨rfl, .nil⟩
  | _ :: _, r, h => by
    obtain ⟨k', v, r', e, a, b, t⟩ := h
    subst e
    obtain ⟨p, q⟩ := RepKV.split t
    exact ⟨⟨_, _, rfl, a, p⟩, .cons b q⟩
theorem mapO_rep {ι2 : List Addr} {f : MV → Option MV} (hf : ∀ m m' v, f m = some m' → RepV c.K ι β H m v → RepV c.K ι2 β H m' v) : ∀ {l l' : List MV} {vs : List V}, mapO f l = some l' → RepVs c.K ι β H l vs → RepVs c.K ι2 β H l' vs
  | [], _, _, e, h => by
    simp only [mapO, Option.some.injEq] at e
    subst e
    rw [h.nil_iff]; exact .nil
  | a :: l, _, _, e, h => by
    obtain ⟨v, r, rfl, q, t⟩ := h.cons_iff
    unfold mapO at e
    cases e1 : f a with
    | none => simp [e1] at e
    | some b =>
      cases e2 : mapO f l with
      | none => simp [e1, e2] at e
      | some r' =>
        simp only [e1, e2, Option.some.injEq] at e
        subst e
        exact .cons (hf _ _ _ e1 q) (mapO_rep hf e2 t)
theorem not_take_of {a : Addr} {k : Nat} (nd : ι.Nodup) (e : ι[k]? = some a) (hk : n ≤ k) : a ∉ ι.take n := fun z => by
  obtain ⟨j, hj, ej⟩ := List.getElem_of_mem z
  rw [List.length_take] at hj
  have e1 : ι[j]? = some a := by
    have : (ι.take n)[j]? = some a := by rw [List.getElem?_eq_getElem (by rw [List.length_take]; exact hj), ej]
    rw [List.getElem?_take_of_lt (by omega)] at this
    exact this
  obtain ⟨h1, e2⟩ := List.getElem?_eq_some_iff.mp e
  obtain ⟨h2, e3⟩ := List.getElem?_eq_some_iff.mp e1
  have := (List.getElem_inj nd).mp (e2.trans e3.symm)
  omega
theorem frV_rep {ι2 : List Addr} {hd : MH} (rel : Rel c ι β H mh) (sk : Sk n ι ι2) (hk : ∀ (k : Nat) a o, n ≤ k → hd[k]? = some o → (∀ d fs, o ≠ .ins d fs) → ι[k]? = some a → mh[k]? = some o ∧ a ∉ ι2) : ∀ (f : Nat) (m m' : MV) (v : V), frV hd n f m = some m' → RepV c.K ι β H m v → RepV c.K ι2 β H m' v
  | 0, m, m', v, e, h => by
    unfold frV at e
    split at e
    · rename_i cl
      cases e
      exact h.shrink sk cl
    · cases e
  | f + 1, m, m', v, e, h => by
    unfold frV at e
    split at e
    · rename_i cl
      cases e
      exact h.shrink sk cl
    · rename_i ncl
      cases m with
      | tup l =>
        simp only [Option.map_eq_some_iff] at e
        obtain ⟨l', e, rfl⟩ := e
        unfold RepV at h ⊢
        obtain ⟨a, vs, e', q, r⟩ := h
        refine ⟨a, vs, e', ?_, mapO_rep (frV_rep rel sk hk f) e r⟩
        rcases q with ⟨q, x, y⟩ | q
        · exact .inl ⟨q, sk.out x, y⟩
        · exact .inr q
      | lv l =>
        simp only [Option.map_eq_some_iff] at e
        obtain ⟨l', e, rfl⟩ := e
        unfold RepV at h ⊢
        obtain ⟨a, vs, e', ⟨q, x, y⟩, r⟩ := h
        exact ⟨a, vs, e', ⟨q, sk.out x, y⟩, mapO_rep (frV_rep rel sk hk f) e r⟩
      | dv ks ws =>
        simp only [Option.map_eq_some_iff] at e
        obtain ⟨l', e, rfl⟩ := e
        unfold RepV at h ⊢
        obtain ⟨a, l, e', ⟨q, x, y⟩, k, r⟩ := h
        exact ⟨a, l, e', ⟨q, sk.out x, y⟩, k, mapO_rep (frV_rep rel sk hk f) e r⟩
      | ref k =>
        unfold RepV at h
        obtain ⟨a, rfl, q⟩ := h
        have hnk : n ≤ k := by
          unfold clV at ncl
          simp at ncl
          exact ncl
        have nb : a ∉ β := fun z => by
          obtain ⟨_, _, x, _⟩ := rel.ban a z
          exact x (List.mem_of_getElem? q)
        obtain ⟨o0, eo0, ro⟩ := rel.at q
        cases eo : hd[k]? with
        | none => simp only [eo] at e; cases e
        | some o =>
        simp only [eo] at e
        cases o with
        | lst l =>
          obtain ⟨eo1, na⟩ := hk k a _ hnk eo (by intro d fs z; cases z) q
          rw [eo0] at eo1; cases eo1
          simp only [Option.map_eq_some_iff] at e
          obtain ⟨l', e, rfl⟩ := e
          obtain ⟨vs, hv, r⟩ := ro
          unfold RepV
          exact ⟨a, vs, rfl, ⟨hv, na, nb⟩, mapO_rep (frV_rep rel sk hk f) e r⟩
        | dct kvs =>
          obtain ⟨eo1, na⟩ := hk k a _ hnk eo (by intro d fs z; cases z) q
          rw [eo0] at eo1; cases eo1
          simp only [Option.map_eq_some_iff] at e
          obtain ⟨l', e, rfl⟩ := e
          obtain ⟨l, hv, r⟩ := ro
          obtain ⟨r1, r2⟩ := r.split
          unfold RepV
          exact ⟨a, l, rfl, ⟨⟨_, hv, .inl rfl⟩, na, nb⟩, r1, mapO_rep (frV_rep rel sk hk f) e r2⟩
        | fdc kvs =>
          obtain ⟨eo1, na⟩ := hk k a _ hnk eo (by intro d fs z; cases z) q
          rw [eo0] at eo1; cases eo1
          simp only [Option.map_eq_some_iff] at e
          obtain ⟨l', e, rfl⟩ := e
          obtain ⟨od, l, hv, r⟩ := ro
          obtain ⟨r1, r2⟩ := r.split
          unfold RepV
          exact ⟨a, l, rfl, ⟨⟨_, hv, .inr ⟨od, rfl⟩⟩, na, nb⟩, r1, mapO_rep (frV_rep rel sk hk f) e r2⟩
        | odc ks ws p q' =>
          obtain ⟨eo1, na⟩ := hk k a _ hnk eo (by intro d fs z; cases z) q
          rw [eo0] at eo1; cases eo1
          simp only at e
          split at e
          · rename_i ws' p' q2 e1 e2 e3
            cases e
            obtain ⟨o, u, l, kv, hk', y, q, nu, sm, od, ek, r1, r2, r3⟩ := ro
            unfold RepV
            exact ⟨a, o, u, l, kv, hk', y, rfl, ⟨q, nu, na, nb⟩, sm, od, ek, mapO_rep (frV_rep rel sk hk f) e1 r1, frV_rep rel sk hk f _ _ _ e2 r2, frV_rep rel sk hk f _ _ _ e3 r3⟩
          · cases e
        | dtt _ => cases e
        | fdt _ => cases e
        | ins m fs => cases e
      | ov _ _ _ _ => cases e
      | non => cases e
      | bl _ => cases e
      | int _ => cases e
      | str _ => cases e
      | fz _ => cases e
      | exv _ _ _ => cases e
end
noncomputable def keptH (h h' : MH) : Bool := beqH (h'.take h.length) h || clH h.length (h'.take h.length)
theorem keptH_cl {c : C} {ι β : List Addr} {H : Hp} {h h' : MH} (r : Rel c ι β H h) (k : keptH h h' = true) : clH h.length (h'.take h.length) = true := by
  unfold keptH at k
  rw [Bool.or_eq_true] at k
  rcases k with k | k
  · rw [beqH_eq k]; exact r.clean
  · exact k
/-- behind a call: all new things dropped, the answer frozen -/
noncomputable def gcF (h : MH) (v : MV) (h' : MH) : R MV :=
  if h'.length ≤ h.length then .ok v h' else
    if keptH h h' then match frV h' h.length 12 v with
      | some v2 => .ok v2 (h'.take h.length)
      | none => .ok v h'
    else .ok v h'
/-- .. the answer kept as one new thing -/
noncomputable def gcR (h : MH) (v : MV) (h' : MH) : R MV :=
  if keptH h h' then match v with
    | .ref k => if k < h.length then .ok v h' else match h'[k]? with
      | some (.lst l) => match mapO (frV (h'.set k (.ins 0 [])) h.length 12) l with
        | some l2 => .ok (.ref h.length) (h'.take h.length ++ [.lst l2])
        | none => .ok v h'
      | some (.dct kvs) => match mapO (frV (h'.set k (.ins 0 [])) h.length 12) (kvs.map (·.2)) with
        | some l2 => .ok (.ref h.length) (h'.take h.length ++ [.dct ((kvs.map (·.1)).zip l2)])
        | none => .ok v h'
      | _ => .ok v h'
    | _ => .ok v h'
  else .ok v h'
section
variable {c : C} {ι ι' β : List Addr} {H H' : Hp} {mh h' : MH} {v : MV}
theorem Fr.take (f : Fr ι H ι' H') : ι'.take ι.length = ι ∧ Fr ι H ι H' := by
  obtain ⟨t, e⟩ := f.pre
  refine ⟨by rw [e]; simp, ⟨[], by simp⟩, f.keep, fun a x y => absurd x y, f.frz⟩
theorem gcF_of {Q : VK} {W : Value → Option Addr → Hp → Prop} (r0 : Rel c ι β H mh) (p : Post c ι β H (RV c) Q W (gcF mh v h')) : Post c ι β H (RV c) Q W (.ok v h') := by
  unfold gcF at p
  split at p
  · exact p
  · split at p
    · rename_i k
      cases e : frV h' mh.length 12 v with
      | none => simp only [e] at p; exact p
      | some v2 =>
        simp only [e] at p
        intro ι' H' u f rel rv
        obtain ⟨e1, f1⟩ := f.take
        have rel2 := rel.shrink (keptH_cl r0 k)
        have rv2 := frV_rep (n := mh.length) (ι2 := ι'.take mh.length) (hd := h') rel Sk.take' (fun k a o hk eo _ q => ⟨eo, not_take_of rel.nd q hk⟩) 12 v v2 u e rv
        rw [r0.len, e1] at rel2 rv2
        rw [r0.len] at p
        exact p ι H' u f1 rel2 rv2
    · exact p
theorem RepKV.zip : ∀ {ks : List MV} {ws : List MV} {l : List (Key × V)}, RepKs ks (l.map (·.1)) → RepVs c.K ι β H ws (l.map (·.2)) → RepKV c.K ι β H (ks.zip ws) l
  | [], ws, l, hk, hv => by
    have e : l.map (·.1) = [] := hk
    have e2 : l = [] := by simpa using e
    subst e2
    rfl
  | k :: ks, ws, l, hk, hv => by
    obtain ⟨k', r', e, a, t⟩ := hk
    cases l with
    | nil => simp at e
    | cons p l =>
      simp only [List.map_cons, List.cons.injEq] at e
      obtain ⟨rfl, rfl⟩ := e
      cases ws with
      | nil => have := hv.length; simp at this
      | cons w ws =>
        obtain ⟨u, r, e2, q, t2⟩ := hv.cons_iff
        simp only [List.map_cons, List.cons.injEq] at e2
        obtain ⟨rfl, rfl⟩ := e2
        exact ⟨p.1, p.2, l, rfl, a, q, RepKV.zip t t2⟩
theorem gcR_of {Q : VK} {W : Value → Option Addr → Hp → Prop} (r0 : Rel c ι β H mh) (p : Post c ι β H (RV c) Q W (gcR mh v h')) : Post c ι β H (RV c) Q W (.ok v h') := by
  unfold gcR at p
  split at p
  · rename_i k
    have cl := keptH_cl r0 k
    cases v with
    | ref m =>
      simp only at p
      split at p
      · exact p
      · rename_i hm
        have hm' : ι.length ≤ m := by rw [← r0.len]; omega
        -- what all ways have in common
        have key : ∀ (mo : MO), (∀ ι' H' a, ι'[m]? = some a → Rel c ι' β H' h' → Sk ι.length ι' (ι'.take ι.length ++ [a]) → (∀ (k : Nat) b o, ι.length ≤ k → (h'.set m (.ins 0 []))[k]? = some o → (∀ d fs, o ≠ .ins d fs) → ι'[k]? = some b → h'[k]? = some o ∧ b ∉ ι'.take ι.length ++ [a]) → RepO c (ι'.take ι.length ++ [a]) β H' a mo) →
            Post c ι β H (RV c) Q W (.ok (.ref mh.length) (h'.take mh.length ++ [mo])) → Post c ι β H (RV c) Q W (.ok (.ref m) h') := by
          intro mo hmo p ι' H' u f rel rv
          unfold RepV at rv
          obtain ⟨a, rfl, ea⟩ := rv
          obtain ⟨e1, f1⟩ := f.take
          have na : a ∉ ι := by
            have := not_take_of (n := ι.length) rel.nd ea hm'
            rwa [e1] at this
          have hn : H a = none := f.news a (List.mem_of_getElem? ea) na
          have sk : Sk ι.length ι' (ι'.take ι.length ++ [a]) := by
            refine ⟨fun x hx => ?_, fun j x hj ex => ?_⟩
            · rcases List.mem_append.mp hx with z | z
              · exact List.mem_of_mem_take z
              · have : x = a := by simpa using z
                rw [this]; exact List.mem_of_getElem? ea
            · rw [List.getElem?_append_left (by rw [e1]; exact hj)]
              exact take_get ex hj
          have ro := hmo ι' H' a ea rel sk fun k b o hk eo hi eb => by
            have hkm : k ≠ m := by
              rintro rfl
              rw [List.getElem?_set_self (by rw [rel.len]; exact (List.getElem?_eq_some_iff.mp ea).1)] at eo
              cases eo
              exact hi _ _ rfl
            rw [List.getElem?_set_ne (Ne.symm hkm)] at eo
            refine ⟨eo, fun z => ?_⟩
            rcases List.mem_append.mp z with z | z
            · exact not_take_of rel.nd eb hk z
            · have : b = a := by simpa using z
              subst this
              obtain ⟨h1, e2⟩ := List.getElem?_eq_some_iff.mp eb
              obtain ⟨h2, e3⟩ := List.getElem?_eq_some_iff.mp ea
              exact hkm ((List.getElem_inj rel.nd).mp (e2.trans e3.symm))
          rw [e1] at ro sk
          rw [r0.len] at p cl
          have hl : (h'.take ι.length).length = ι.length := by
            rw [List.length_take, rel.len]
            have : ι.length ≤ ι'.length := by
              obtain ⟨t, e⟩ := f.pre
              rw [e, List.length_append]; omega
            omega
          refine p (ι ++ [a]) H' (.ref a) ⟨⟨[a], rfl⟩, f.keep, fun b hb nb => ?_, f.frz⟩ ⟨?_, ?_, fun b hb => ?_, fun j o' e' => ?_⟩ ?_
          · rcases List.mem_append.mp hb with z | z
            · exact absurd z nb
            · have : b = a := by simpa using z
              rw [this]; exact hn
          · simp only [List.length_append, hl, List.length_cons, List.length_nil]
          · refine List.nodup_append.mpr ⟨r0.nd, by simp, fun x hx b hb => ?_⟩
            have : b = a := by simpa using hb
            subst this
            rintro rfl
            exact na hx
          · obtain ⟨o', e', x, y⟩ := rel.ban b hb
            exact ⟨o', e', sk.out x, y⟩
          · by_cases hj : j < ι.length
            · rw [List.getElem?_append_left (by rw [hl]; exact hj)] at e'
              have e2 : h'[j]? = some o' := by rw [List.getElem?_take_of_lt hj] at e'; exact e'
              obtain ⟨b, eb, rb⟩ := rel.obj j o' e2
              exact ⟨b, sk.get _ _ hj eb, rb.shrink sk (clH_get cl e')⟩
            · rw [List.getElem?_append_right (by rw [hl]; omega), hl] at e'
              have hz : j - ι.length = 0 := by
                have := (List.getElem?_eq_some_iff.mp e').1
                simp at this
                exact this
              rw [hz] at e'
              simp at e'
              subst e'
              exact ⟨a, by rw [List.getElem?_append_right (by omega), hz]; rfl, ro⟩
          · unfold RepV
            exact ⟨a, rfl, by rw [List.getElem?_append_right (Nat.le_refl _)]; simp⟩
        cases eo : h'[m]? with
        | none => simp only [eo] at p; exact p
        | some o =>
          simp only [eo] at p
          cases o with
          | lst l =>
            simp only at p
            cases el : mapO (frV (h'.set m (.ins 0 [])) mh.length 12) l with
            | none => simp only [el] at p; exact p
            | some l2 =>
              simp only [el] at p
              refine key _ (fun ι' H' a ea rel sk hk => ?_) p
              obtain ⟨o2, e2, r2⟩ := rel.at ea
              rw [eo] at e2; cases e2
              obtain ⟨vs, hv, r⟩ := r2
              rw [r0.len] at el
              exact ⟨vs, hv, mapO_rep (frV_rep rel sk hk 12) el r⟩
          | dct kvs =>
            simp only at p
            cases el : mapO (frV (h'.set m (.ins 0 [])) mh.length 12) (kvs.map (·.2)) with
            | none => simp only [el] at p; exact p
            | some l2 =>
              simp only [el] at p
              refine key _ (fun ι' H' a ea rel sk hk => ?_) p
              obtain ⟨o2, e2, r2⟩ := rel.at ea
              rw [eo] at e2; cases e2
              obtain ⟨l, hv, r⟩ := r2
              obtain ⟨q1, q2⟩ := r.split
              rw [r0.len] at el
              exact ⟨l, hv, RepKV.zip q1 (mapO_rep (frV_rep rel sk hk 12) el q2)⟩
          | fdc kvs => exact p
          | odc _ _ _ _ => exact p
          | dtt _ => exact p
          | fdt _ => exact p
          | ins d fs => exact p
    | _ => exact p
  · exact p
end
end MP
namespace MP
open PySem PySem.Spec PyProof.Rows L2
/-- room, and no repr under way -/
structure RoomG (k : Nat) (A : Around) : Prop extends Room k A where
  gd : A.guards = some []
theorem RoomG.less {j k : Nat} {A : Around} (r : RoomG k A) (h : j ≤ k) : RoomG j A := ⟨r.toRoom.mono h, r.gd⟩
theorem RoomG.inner {k : Nat} {A : Around} (r : RoomG (k + 1) A) (env : Env) : RoomG k (A.deeper env) := ⟨r.toRoom.deeper env, r.gd⟩
/-- a def's promise, there -/
structure FnG (P : Program) (w : World) (K : PySem.W.Frag) (mg : Str → Option Value) (base : Heap) (CX : CXT) (k : Nat) (f : Addr) (fd : FuncData) (ps : List Str) (sp : Sp) : Prop where
  len : ∀ vs H Q E, sp vs H Q E → vs.length = ps.length
  go : ∀ {A : Around} {outer : List Env} {s : Shared} {H : Hp} {args : Args} {us : List Value} {vs : List V} {Q : VK} {E : XK}, RoomG k A → Env0 P w K mg base A outer s H → BindsTo s fd args (ps.zip us) → Vals vs us → sp vs H Q E → codeAny (model P w) A (.call (.ref f) args) (CR CX outer P w H s Q E) s
section
variable {P : Program} {w : World} {K : PySem.W.Frag} {mg : Str → Option Value} {base : Heap} {CX : CXT} {j k : Nat} {f : Addr} {fd : FuncData} {ps : List Str} {sp sp' : Sp}
theorem FnG.less (F : FnG P w K mg base CX j f fd ps sp) (h : j ≤ k) : FnG P w K mg base CX k f fd ps sp := ⟨F.len, fun r e b v q => F.go (r.less h) e b v q⟩
theorem FnG.weak (F : FnG P w K mg base CX k f fd ps sp) (h : ∀ vs H Q E, sp' vs H Q E → sp vs H Q E) : FnG P w K mg base CX k f fd ps sp' := ⟨fun _ _ _ _ q => F.len _ _ _ _ (h _ _ _ _ q), fun r e b v q => F.go r e b v (h _ _ _ _ q)⟩
/-- by its body -/
theorem fnG {x qual : Str} {st : Stmt} {N : List Str} (F : Fun K x qual st f fd) (S : FnScope N ps (defScope st)) (len : ∀ vs H Q E, sp vs H Q E → vs.length = ps.length)
    (hb : ∀ (cdv : Value) (A : Around) (outer : List Env) (s : Shared) (H : Hp) (vs : List V) (Q : VK) (E : XK), RoomG k (A.deeper (envOfC qual (defScope st) s.heap.objs.size f cdv)) → sp vs H Q E → ∃ t, PSs (cxOf CX P w K mg base N qual (defScope st) f cdv A outer s H E) (defBody st) t ∧ t { nx := fun _ H' => Q .non H', rt := Q } (start N vs) H) :
    FnG P w K mg base CX (k + 1) f fd ps sp := by
  obtain ⟨oc, od, kV, doc, pm, an, cdv, ct, osl, rfl, lk, hcd⟩ := F.ex
  constructor
  · exact len
  · intro A outer s H args us vs Q E room env bound rv q
    have size := len _ _ _ _ q
    have keep : ∀ {b : Addr} {o : Obj}, base.get? b = some o → s.heap.get? b = some o := fun e => (env.bs _ _ e).1
    have kin : K.In s.heap := env.mod.kin.keeps fun b o e => keep e
    have kinds : ∀ y ∈ ps.zip us, (defScope st).names.lookup y.1 = some .local ∨ ((defScope st).names.lookup y.1 = some .cell ∧ ((cellsFrom (s.heap.objs.size + 1) (defScope st).names []).lookup y.1).isSome = true) := by
      rintro ⟨n, v⟩ hy
      exact (S.par n (List.of_mem_zip hy).1).imp id fun c => ⟨c, PySem.W.cellsFrom_some _ _ _ (.inl c)⟩
    have body := hb cdv A outer s H vs Q E (room.inner (envOfC qual (defScope st) s.heap.objs.size f cdv)) q
    obtain ⟨t, ht, hq⟩ := body
    refine codeAny_call_function room.toRoom.depth (kin _ _ lk) rfl S.co S.gen rfl (PySem.W.codeRec_of kin hcd) (bound _ _ _ _ ?_)
    apply wpAny_newFunctionEnv_cells S.kind kinds
    intro ev he s1 inn
    subst he
    refine ⟨(env.mod.nolimit.keeps fun b o e => keep e).keeps inn.toInCall.keep, codeAny_func ?_⟩
    have begin_ := inv_start (CX := CX) (P := P) (w := w) (E := E) S room.toRoom.hd env size rv inn
    refine wpAny_mono (ht.run [] s1 (start N vs) H _ begin_ hq) ?_ fun _ _ z => z
    rintro (_ | _ | _ | u) s' z
    · obtain ⟨σ', H', J, q⟩ := z
      exact ⟨V.non, H', J.os, J.bare, J.base, J.hok, rfl, q⟩
    · obtain ⟨_, _, _, q⟩ := z
      exact q.elim
    · obtain ⟨_, _, _, q⟩ := z
      exact q.elim
    · obtain ⟨v, σ', H', J, rv, q⟩ := z
      exact ⟨v, H', J.os, J.bare, J.base, J.hok, rv, q⟩
end
section
variable {X : Cx} {k : Nat} {f : Addr} {fd : FuncData} {ps ks : List Str} {sp : Sp} {x : Str} {p pos : Pos} {e : Expr} {es : List Expr} {t tk : TA} {pins : List (Addr × Obj)} {H : Hp} {s : Shared} {Q : VK} {us ws : List Value} {vs zs : List V}
/-- what stands behind a call, for the caller -/
theorem CR.done {σ : St} {CX : CXT} {E : XK} (hx : PassesAt CX X σ E) (I : Inv X pins σ H s) : ∀ {r : Result} {s' : Shared}, CR CX X.stack X.prog X.w H s Q E r s' → (match r with
    | .ok (.ret u) => EP X pins σ Q u s'
    | .ok _ => False
    | .error z => X.xe z s')
  | .error z, _, h => hx pins H s z _ I h
  | .ok (.ret _), _, h => I.after h
  | .ok .next, _, h => h
  | .ok .brk, _, h => h
  | .ok .cont, _, h => h
theorem run_G {σ : St} {CX : CXT} {E : XK} {args : Args} (F : FnG X.prog X.w X.K X.mg X.base CX k f fd ps sp) (hr : RoomG k X.A) (hb : BindsTo s fd args (ps.zip us)) (hx : PassesAt CX X σ E) (I : Inv X pins σ H s) (r : Vals vs us) (h : sp vs H Q E) :
    codeAny (model X.prog X.w) X.A (.call (.ref f) args) (fun r s' => match r with
      | .ok (.ret u) => EP X pins σ Q u s'
      | .ok _ => False
      | .error z => X.xe z s') s :=
  codeAny_mono (F.go hr I.env0 hb r h) fun _ _ z => CR.done hx I z
theorem call_G {σ : St} {CX : CXT} {E : XK} (F : FnG X.prog X.w X.K X.mg X.base CX k f fd ps sp) (hr : RoomG k X.A) (hb : Binds X.K fd ps []) (hx : PassesAt CX X σ E) (I : Inv X pins σ H s) (r : Vals vs us) (h : sp vs H Q E) : wpAny (model X.prog X.w) X.A (call (.ref f) us) (EP X pins σ Q) X.xe s := by
  have b := hb s us I.kIn (by rw [List.append_nil, ← r.length]; exact F.len _ _ _ _ h)
  rw [List.append_nil] at b
  exact wpAny_call (codeAny_mono (run_G F hr b hx I r h) fun r s' z => by rcases r with z2 | (_ | _ | _ | u) <;> first | exact z | exact z.elim)
theorem pe_G {E : St → XK} {CX : CXT} (F : FnG X.prog X.w X.K X.mg X.base CX k f fd ps sp) (hr : RoomG k X.A) (hg : Gl X x) (hm : X.mg x = some (.ref f)) (hk : PySem.W.keepIn X.K (.ref f) = true) (hb : Binds X.K fd ps []) (hx : ∀ σ, PassesAt CX X σ (E σ))
    (ha : PA X (e :: es) t) (hdb : (x == ("__debug__" : Str)) = false := by decide) (he : starEach (e :: es) X.env = (false, eval e X.env) :: starEach es X.env := by rfl) (hpl : (backTo pos (starEach es X.env)).any (·.1) = false := by rfl) :
    PE X (.Call (.Name x p) (e :: es) [] pos) (tCallS sp E t) := by
  constructor
  intro pins s σ H Q I h
  apply wpAny_Call_Name_kw
  refine ld_glob I hg hm ?_ hdb
  refine PySem.W.callWith_K (h₀ := X.base) I.ok.mod.kin hk ?_ he hpl
  exact thn (ha.run pos pins s σ H _ I h) fun us s1 ⟨vs, H1, I1, r, q⟩ => ⟨I1.kIn, call_G F hr hb (hx σ) I1 r q⟩
end
end MP
namespace MP
open PySem PySem.Spec PyProof.Rows L2
theorem callerG {k : Nat} (h : Room k callerA) : RoomG k callerA := ⟨h, rfl⟩
noncomputable def EndG (s₁ : Shared) (r : Result) (s' : Shared) : Prop := r = .ok (.ret (.bool true)) ∧ OldK s₁.heap s'.heap ∧ s'.os = s₁.os ∧ AllBare s'.gens
section
variable {P : Program} {w : World} {K : PySem.W.Frag} {mg mb : Str → Option Value} {CX : CXT} {k : Nat} {fa a : Addr} {fd : FuncData} {x : Str} {sp : Sp} {s₁ : Shared} {vs : List Value} {ns : List Int}
/-- what the abstract heap hides of the law's start: nothing but the script -/
structure StartH (P : Program) (w : World) (K : PySem.W.Frag) (H : Hp) (h : Heap) (a : Addr) : Prop where
  only : Only H
  ok : HOk P w H h
  at_ : ∀ b, H b ≠ none → b = a
  own : H a ≠ none → K.lookup a = none
theorem StartH.none_of {H : Hp} {h : Heap} (S : StartH P w K H h a) {b : Addr} (n : b ≠ a) : H b = none := by
  cases e : H b with
  | none => rfl
  | some u => exact absurd (S.at_ b (by rw [e]; simp)) n
theorem startG (KX : K.In s₁.heap) (hns : s₁.heap.Ns mainGlobals mg) (hb : s₁.heap.Ns builtinsNs mb) (hbb : ∀ x : Str, x ≠ "__name__" → mb x = bootBuiltins x) (hlim : s₁.heap.NoLimit) (hg : s₁.gens = #[])
    (ha : s₁.heap.get? a = some { cls := .type "list", data := .seq vs.toArray }) (hr : Room k callerA) (F : ∀ base : Heap, K.In base → base.Ns mainGlobals mg → FnG P w K mg base CX k fa fd [x] sp) (hbind : ∀ (s : Shared) (u : Value), BindsTo s fd ⟨[u], []⟩ [(x, u)])
    (hCX : ∀ H e s', CX [] H s₁ (fun _ _ _ => False) e s' → False) {H : Hp} (S : StartH P w K H s₁.heap a) (hsp : sp [.ref a] H (fun v _ => v = .bl true) fun _ _ _ => False) : codeAny (model P w) callerA (.call (.ref fa) ⟨[.ref a], []⟩) (EndG s₁) s₁ := by
  have shown : ∀ {b : Addr} {o : Obj}, s₁.heap.get? b = some o → b ≠ a → (hidT s₁.heap H).get? b = some o := fun e n => hidT_get e (S.none_of n)
  have spaces : ∀ {b : Addr} {m : Str → Option Value}, s₁.heap.Ns b m → (hidT s₁.heap H).Ns b m := by
    rintro b m ⟨o, es, ep, e, d, r⟩
    refine ⟨o, es, ep, shown e ?_, d, r⟩
    rintro rfl
    rw [ha] at e
    injection e with e
    subst e
    exact nomatch d
  have written : K.In (hidT s₁.heap H) := by
    intro b o e
    by_cases z : b = a
    · subst z
      refine hidT_get (KX b o e) ?_
      cases q : H b with
      | none => rfl
      | some u =>
        have := S.own (by rw [q]; simp)
        rw [e] at this; cases this
    · exact shown (KX b o e) z
  have mod : Mod K mg (hidT s₁.heap H) := ⟨written, spaces hns, ⟨mb, spaces hb, hbb⟩, by obtain ⟨mc, h1, h2⟩ := hlim; exact ⟨mc, spaces h1, h2⟩⟩
  have env : Env0 P w K mg (hidT s₁.heap H) callerA [] s₁ H := ⟨rfl, mod, fun b o e => of_hidT e, Nat.le_of_eq (hidT_size _ _), trivial, fun b m => absurd (show b ∈ ([] : List Addr) from m) (by simp), S.ok, .of_eq hg⟩
  refine codeAny_mono ((F _ written (spaces hns)).go (callerG hr) env (us := [.ref a]) (vs := [.ref a]) (hbind s₁ (.ref a)) (.cons rfl .nil) hsp) ?_
  rintro (z | (_ | _ | _ | u)) s' h
  · exact (hCX H z s' h).elim
  · exact h.elim
  · exact h.elim
  · exact h.elim
  · obtain ⟨v, H', os, bare, un, ok', rel, q⟩ := h
    have q : v = .bl true := q
    subst q
    have rel : u = Value.bool true := rel
    subst rel
    refine ⟨rfl, OldK.of_keep fun b o e => ?_, os, bare⟩
    rcases S.only b with z | ⟨ob, xs, z⟩
    · exact un.keep b o e z (fun m => absurd (show b ∈ ([] : List Addr) from m) (by simp)) (by simp)
    · have h1 := (S.ok b _ z).1
      have h2 := (ok' b _ (un.frzs b ob _ z)).1
      rw [e] at h1
      injection h1 with h1
      rw [h1]; exact h2
theorem callG (KX : K.In s₁.heap) (hns : s₁.heap.Ns mainGlobals mg) (hb : s₁.heap.Ns builtinsNs mb) (hbb : ∀ x : Str, x ≠ "__name__" → mb x = bootBuiltins x) (hlim : s₁.heap.NoLimit) (hg : s₁.gens = #[])
    (ha : s₁.heap.get? a = some { cls := .type "list", data := .seq vs.toArray }) (hi : IntsAre vs ns) (hl : ns.length ≤ sizeLine) (hr : Room k callerA) (F : ∀ base : Heap, K.In base → base.Ns mainGlobals mg → FnG P w K mg base CX k fa fd [x] sp) (hbind : ∀ (s : Shared) (u : Value), BindsTo s fd ⟨[u], []⟩ [(x, u)])
    (hsp : ∀ H : Hp, Only H → SqL K H a (ns.map V.int) → sp [.ref a] H (fun v _ => v = .bl true) fun _ _ _ => False) (hCX : ∀ H e s', CX [] H s₁ (fun _ _ _ => False) e s' → False) : codeAny (model P w) callerA (.call (.ref fa) ⟨[.ref a], []⟩) (EndG s₁) s₁ := by
  have items := vals_ints hi
  have many := hi.length
  cases own : K.lookup a with
  | some o =>
    have e := (KX a o own).symm.trans ha
    injection e with e
    subst e
    have S : StartH P w K (fun _ => none) s₁.heap a := ⟨fun _ => .inl rfl, fun b u z => (nomatch (z : (none : Option HO) = some u)), fun b z => absurd rfl z, fun z => absurd rfl z⟩
    exact startG KX hns hb hbb hlim hg ha hr F hbind hCX S (hsp _ S.only (.inr ⟨_, vs.toArray, _, own, rfl, rfl, rfl, by rw [List.size_toArray, many]; exact hl, by simpa using items⟩))
  | none =>
    let ob : Obj := { cls := .type "list", data := .seq vs.toArray }
    have S : StartH P w K (fun b => if b = a then some (.frz ob (.lst (ns.map V.int))) else none) s₁.heap a := by
      constructor
      · intro b
        by_cases z : b = a
        · exact .inr ⟨ob, ns.map V.int, by simp only [z, if_true]⟩
        · exact .inl (by simp only [z, if_false])
      · intro b u z
        by_cases e : b = a
        · subst e
          simp only [if_true] at z
          injection z with z
          subst z
          exact ⟨ha, by rw [List.length_map]; exact hl, vs, _, items, ha⟩
        · simp only [e, if_false] at z
          cases z
      · intro b z
        by_cases e : b = a
        · exact e
        · simp only [e, if_false] at z
          exact absurd rfl z
      · intro _; exact own
    exact startG KX hns hb hbb hlim hg ha hr F hbind hCX S (hsp _ S.only (.inl (.inr ⟨ob, by simp⟩)))
end
end MP
namespace MP
open PySem PySem.Spec PyProof.Rows L2
noncomputable def killL (ks : List Nat) (σ : Lo) : Lo := ks.foldr (fun i l => l.set i none) σ
noncomputable def gcL (ks : List Nat) (h : MH) (σ : Lo) (h' : MH) : Lo × MH :=
  if h'.length ≤ h.length then (killL ks σ, h') else if clL h.length (killL ks σ) && keptH h h' then (killL ks σ, h'.take h.length) else (killL ks σ, h')
noncomputable def sGc (ks : List Nat) (body : SM) : SM := fun σ h => match body σ h with
  | .nx σ2 h2 => .nx (gcL ks h σ2 h2).1 (gcL ks h σ2 h2).2
  | .ct σ2 h2 => .ct (gcL ks h σ2 h2).1 (gcL ks h σ2 h2).2
  | x => x
section
variable {c : C} {ι ι' β : List Addr} {H H' : Hp} {mh h' : MH} {σm : Lo} {σ : St}
theorem RepL.kill (ks : List Nat) (r : RepL c ι β H σm σ) : RepL c ι β H (killL ks σm) σ := by
  induction ks with
  | nil => exact r
  | cons i ks ih =>
    refine ⟨by show ((killL ks σm).set i none).length = _; rw [List.length_set]; exact ih.len, fun j m e => ?_⟩
    have e' : ((killL ks σm).set i none)[j]? = some (some m) := e
    by_cases hj : j = i
    · subst hj
      rw [List.getElem?_set] at e'
      simp at e'
    · rw [List.getElem?_set_ne (Ne.symm hj)] at e'
      exact ih.all j m e'
theorem gcL_of (ks : List Nat) (r0 : Rel c ι β H mh) (f : Fr ι H ι' H') (rel : Rel c ι' β H' h') (rl : RepL c ι' β H' σm σ) :
    ∃ ι2, Fr ι H ι2 H' ∧ Rel c ι2 β H' (gcL ks mh σm h').2 ∧ RepL c ι2 β H' (gcL ks mh σm h').1 σ := by
  unfold gcL
  split
  · exact ⟨ι', f, rel, rl.kill ks⟩
  · split
    · rename_i k
      rw [Bool.and_eq_true] at k
      obtain ⟨e1, f1⟩ := f.take
      have rel2 := rel.shrink (keptH_cl r0 k.2)
      have rl2 := (rl.kill ks).shrink (Sk.take' (n := mh.length)) k.1
      rw [r0.len, e1] at rel2 rl2
      rw [r0.len]
      exact ⟨ι, f1, rel2, rl2⟩
    · exact ⟨ι', f, rel, rl.kill ks⟩
theorem sGc_of {D : Ends} {W : WX} {ks : List Nat} {body : SM} (r0 : Rel c ι β H mh) (p : PostS c ι β H D W (sGc ks body σm mh)) : PostS c ι β H D W (body σm mh) := by
  unfold sGc at p
  cases e : body σm mh with
  | nx σ2 h2 =>
    simp only [e] at p
    intro ι' H' σ' f rel rl
    obtain ⟨ι2, f2, rel2, rl2⟩ := gcL_of ks r0 f rel rl
    exact p ι2 H' σ' f2 rel2 rl2
  | ct σ2 h2 =>
    simp only [e] at p
    intro ι' H' σ' f rel rl
    obtain ⟨ι2, f2, rel2, rl2⟩ := gcL_of ks r0 f rel rl
    exact p ι2 H' σ' f2 rel2 rl2
  | rt v h2 => simp only [e] at p; exact p
  | bk σ2 h2 => simp only [e] at p; exact p
  | ex x σ2 h2 => simp only [e] at p; exact p
  | bad => simp only [e] at p; exact p
theorem ss_gc {X : Cx} {W : WX} {st : List Stmt} {body : SM} (ks : List Nat) (h : PSs X st (tS c W body)) : PSs X st (tS c W (sGc ks body)) :=
  h.wk fun D σ H ⟨ι, β, mh, σm, rel, rl, p⟩ => ⟨ι, β, mh, σm, rel, rl, sGc_of rel p⟩
end
@[simp] noncomputable def fnM (N : Nat) (body : SM) (args : List MV) (h : MH) : R MV :=
  match body (args.map some ++ List.replicate (N - args.length) none) h with
  | .nx _ h' => .ok .non h'
  | .rt v h' => .ok v h'
  | .ex e _ h' => .ex e h'
  | _ => .bad
noncomputable def spM (c : C) (n : Nat) (m : List MV → MH → R MV) : Sp := fun vs H Q E => vs.length = n ∧ ∃ ι β mh ms, Rel c ι β H mh ∧ RepVs c.K ι β H ms vs ∧ Post c ι β H (RV c) Q (fun cls d H' => E cls d H') (m ms mh)
theorem RepL.start {c : C} {ι β : List Addr} {H : Hp} (n : Nat) : ∀ {ms : List MV} {vs : List V}, RepVs c.K ι β H ms vs → RepL c ι β H (ms.map some ++ List.replicate n none) (vs.map some ++ List.replicate n none) := by
  intro ms vs r
  refine ⟨by simp [r.length], fun i m e => ?_⟩
  by_cases hi : i < ms.length
  · rw [List.getElem?_append_left (by simpa using hi)] at e
    rw [List.getElem?_map] at e
    cases e1 : ms[i]? with
    | none => rw [e1] at e; simp at e
    | some m' =>
      rw [e1] at e
      simp at e
      subst e
      obtain ⟨v, ev, q⟩ := r.get e1
      refine ⟨v, ?_, .inl q⟩
      rw [List.getElem?_append_left (by simp only [List.length_map]; rw [← r.length]; exact hi), List.getElem?_map, ev]
      rfl
  · rw [List.getElem?_append_right (by simp only [List.length_map]; omega)] at e
    rw [List.getElem?_replicate] at e
    split at e <;> simp at e
section
variable {P : Program} {w : World} {K : PySem.W.Frag} {mg : Str → Option Value} {base : Heap}
theorem fn_okM {c : C} {x qual : Str} {st : Stmt} {f : Addr} {fd : FuncData} {N ps : List Str} {k : Nat} {body : SM} (F : Fun K x qual st f fd) (S : FnScope N ps (defScope st))
    (hb : ∀ (cdv : Value) (A : Around) (outer : List Env) (s : Shared) (H : Hp) (E : XK), RoomG k (A.deeper (envOfC qual (defScope st) s.heap.objs.size f cdv)) →
      PSs (cxOf (L2N.CX P w) P w K mg base N qual (defScope st) f cdv A outer s H E) (defBody st) (tS c (fun cls d _ H' => E cls d H') body)) :
    FnG P w K mg base (L2N.CX P w) (k + 1) f fd ps (spM c ps.length (fnM N.length body)) := by
  refine fnG F S (fun vs H Q E h => h.1) (fun cdv A outer s H vs Q E hr h => ?_)
  refine ⟨_, hb cdv A outer s H E hr, ?_⟩
  obtain ⟨hl, ι, β, mh, ms, rel, rv, p⟩ := h
  refine ⟨ι, β, mh, _, rel, RepL.start (N.length - vs.length) rv, ?_⟩
  unfold fnM at p
  rw [show ms.length = vs.length from rv.length] at p
  cases e : body (ms.map some ++ List.replicate (N.length - vs.length) none) mh with
  | nx σ h' => simp only [e] at p; exact fun ι' H' σ' f rel' rl' => p ι' H' .non f rel' (rnon _ _ _)
  | rt v h' => simp only [e] at p; exact p
  | ex x σ h' => simp only [e] at p; exact fun ι' H' cls d σ' f rel' rl' rx => p ι' H' cls d f rel' rx
  | bk σ h' => simp only [e] at p; exact p.elim
  | ct σ h' => simp only [e] at p; exact p.elim
  | bad => simp only [e] at p; exact p.elim
end
noncomputable def cN (n : Nat) (m : List MV → MH → R MV) (as : List MV) (h : MH) : R MV := if as.length = n then m as h else .bad
noncomputable def cF (n : Nat) (m : List MV → MH → R MV) (as : List MV) (h : MH) : R MV := if as.length = n then bindR (m as h) (gcF h) else .bad
noncomputable def cR (n : Nat) (m : List MV → MH → R MV) (as : List MV) (h : MH) : R MV := if as.length = n then bindR (m as h) (gcR h) else .bad
/-- a way to call -/
noncomputable def Way (c : C) (g : Nat → (List MV → MH → R MV) → List MV → MH → R MV) : Prop := ∀ (n : Nat) m ι β H mh as xs Q W, Rel c ι β H mh → RepVs c.K ι β H as xs → Post c ι β H (RV c) Q W (g n m as mh) → as.length = n ∧ Post c ι β H (RV c) Q W (m as mh)
theorem way_N {c : C} : Way c cN := fun n m ι β H mh as xs Q W rel rv p => by
  unfold cN at p
  split at p
  · exact ⟨by assumption, p⟩
  · exact p.elim
theorem way_F {c : C} : Way c cF := fun n m ι β H mh as xs Q W rel rv p => by
  unfold cF at p
  split at p
  · refine ⟨by assumption, ?_⟩
    cases e : m as mh with
    | ok v h' => rw [e] at p; exact gcF_of rel p
    | ex x h' => rw [e] at p; exact p
    | bad => rw [e] at p; exact p
  · exact p.elim
theorem way_R {c : C} : Way c cR := fun n m ι β H mh as xs Q W rel rv p => by
  unfold cR at p
  split at p
  · refine ⟨by assumption, ?_⟩
    cases e : m as mh with
    | ok v h' => rw [e] at p; exact gcR_of rel p
    | ex x h' => rw [e] at p; exact p
    | bad => rw [e] at p; exact p
  · exact p.elim
section
variable {X : Cx} {c : C} {W : WX} {k n : Nat} {f : Addr} {fd : FuncData} {ps : List Str} {m : List MV → MH → R MV} {g : Nat → (List MV → MH → R MV) → List MV → MH → R MV} {x : Str} {p pos : Pos} {e : Expr} {es : List Expr} {rs : AM}
theorem e_call (hg : Way c g) (F : FnG X.prog X.w X.K X.mg X.base (L2N.CX X.prog X.w) k f fd ps (spM c n m)) (hr : RoomG k X.A) (hgl : Gl X x) (hm : X.mg x = some (.ref f)) (hk : PySem.W.keepIn X.K (.ref f) = true) (hb : Binds X.K fd ps []) (tk : L2N.Takes X W)
    (ha : PA X (e :: es) (tA c W rs)) (hdb : (x == ("__debug__" : Str)) = false := by decide) (he : starEach (e :: es) X.env = (false, eval e X.env) :: starEach es X.env := by rfl) (hpl : (backTo pos (starEach es X.env)).any (·.1) = false := by rfl) :
    PE X (.Call (.Name x p) (e :: es) [] pos) (tE c W (mN (g n m) rs)) := by
  refine (pe_G F hr hgl hm hk hb (L2N.passAt tk) ha hdb he hpl).wk fun σ H Q h => ?_
  obtain ⟨ι, β, mh, σm, rel, rl, p⟩ := h
  refine (run1 rel rl p).mono fun xs H1 ⟨ι1, mh1, as, f1, rel1, rl1, ra1, p1⟩ => ?_
  obtain ⟨hl, p2⟩ := hg n m ι1 β H1 mh1 as xs _ _ rel1 ra1 p1
  exact ⟨by rw [← ra1.length]; exact hl, ι1, β, mh1, as, rel1, ra1, p2⟩
theorem k_nil : PK X [] (tA c W mNil) := ⟨fun pos pins s σ H Q I ⟨ι, β, mh, σm, rel, rl, p⟩ => pk_nil.run pos pins s σ H Q I (p ι H [] .refl rel .nil)⟩
theorem k_cons {kws : List Keyword} {nm : Option Str} {kpos : Pos} {ra : EM} (ha : PE X e (tE c W ra)) (hr : PK X kws (tA c W rs)) : PK X (⟨nm, e, kpos⟩ :: kws) (tA c W (mCons ra rs)) :=
  ⟨fun pos pins s σ H Q I h => (pk_cons ha hr).run pos pins s σ H Q I (a_cons' (e := e) (es := []) h)⟩
end
noncomputable def forGo (chk : MH → Bool) (g : GM) (body : SM) : List MV → SM
  | [], σ, h => if chk h = true then .nx σ h else .bad
  | x :: xs, σ, h => if chk h = true then match g x σ h with
      | .ok σ1 h1 => match body σ1 h1 with
        | .nx σ2 h2 => forGo chk g body xs σ2 h2
        | .ct σ2 h2 => forGo chk g body xs σ2 h2
        | .bk σ2 h2 => .nx σ2 h2
        | .rt v h2 => .rt v h2
        | .ex e σ2 h2 => .ex e σ2 h2
        | .bad => .bad
      | _ => .bad
    else .bad
structure Src (c : C) (J : It) (items : List MV) (chk : MH → Bool) (inv : List Addr → List Addr → Hp → Prop) : Prop where
  mono : ∀ ι β H ι' H', Fr ι H ι' H' → inv ι β H → inv ι' β H'
  go : ∀ ι β H mh (i : Nat) m, Rel c ι β H mh → inv ι β H → chk mh = true → items[i]? = some m → J.go i H ∧ ∀ x H', J.yld i H x H' → Fr ι H ι H' ∧ Rel c ι β H' mh ∧ RepV c.K ι β H' m x
  stop : ∀ ι β H mh, Rel c ι β H mh → inv ι β H → chk mh = true → J.stop items.length H
  ban : ∀ ι β H D o, inv ι β H → H D = none → inv ι (D :: β) (upd H D o)
  turn : ∀ ι β H D o, inv ι (D :: β) H → inv ι (D :: β) (upd H D o)
theorem for_of {c : C} {J : It} {items : List MV} {chk : MH → Bool} {inv : List Addr → List Addr → Hp → Prop} {ι β : List Addr} {H : Hp} {mh : MH} {σm : Lo} {σ : St} {D : Ends} {W : WX} {g : GM} {body : SM}
    (S : Src c J items chk inv) (rel : Rel c ι β H mh) (rl : RepL c ι β H σm σ) (hi : inv ι β H) (p : PostS c ι β H D W (forGo chk g body items σm mh)) :
    ∃ W' : Nat → Nat → St → Hp → Prop, (∃ m, W' 0 m σ H) ∧ ∀ i m σ H, W' i m σ H →
      (J.stop i H ∧ D.nx σ H) ∨ (J.go i H ∧ ∃ N : St → Hp → Prop, (∀ σ' H', N σ' H' → ∃ m', m' < m ∧ W' (i + 1) m' σ' H') ∧ ∀ x H', J.yld i H x H' → tG c g x σ H' fun σ2 H2 => tS c W body { D with nx := N, ct := N, bk := D.nx } σ2 H2) := by
  refine ⟨fun i m σ H => m = items.length - i ∧ i ≤ items.length ∧ ∃ ι β mh σm, Rel c ι β H mh ∧ RepL c ι β H σm σ ∧ inv ι β H ∧ PostS c ι β H D W (forGo chk g body (items.drop i) σm mh),
    ⟨items.length, by simp, Nat.zero_le _, ι, β, mh, σm, rel, rl, hi, by simpa using p⟩, ?_⟩
  rintro i m σ H ⟨rfl, hle, ι, β, mh, σm, rel, rl, hi, p⟩
  by_cases hlt : i < items.length
  · rw [List.drop_eq_getElem_cons hlt] at p
    unfold forGo at p
    split at p
    · rename_i hc
      obtain ⟨go, yl⟩ := S.go ι β H mh i items[i] rel hi hc (List.getElem?_eq_getElem hlt)
      refine .inr ⟨go, fun σ' H' => ∃ ι β mh σm, Rel c ι β H' mh ∧ RepL c ι β H' σm σ' ∧ inv ι β H' ∧ PostS c ι β H' D W (forGo chk g body (items.drop (i + 1)) σm mh), fun σ' H' hN => ⟨items.length - (i + 1), by omega, rfl, hlt, hN⟩, fun x H' hy => ?_⟩
      obtain ⟨f1, rel1, rx⟩ := yl x H' hy
      refine ⟨ι, β, mh, σm, items[i], rel1, rl.mono f1, rx, ?_⟩
      cases e : g items[i] σm mh with
      | ok σ1 h1 =>
        simp only [e] at p
        intro ι2 H2 σ2 f2 rel2 rl2
        refine ⟨ι2, β, h1, σ1, rel2, rl2, ?_⟩
        have f12 := f1.trans f2
        cases e2 : body σ1 h1 with
        | nx σ3 h3 => simp only [e2] at p; exact fun ι3 H3 σ' f3 rel3 rl3 => ⟨ι3, β, h3, σ3, rel3, rl3, S.mono _ _ _ _ _ (f12.trans f3) hi, PostS.fr (f12.trans f3) p⟩
        | ct σ3 h3 => simp only [e2] at p; exact fun ι3 H3 σ' f3 rel3 rl3 => ⟨ι3, β, h3, σ3, rel3, rl3, S.mono _ _ _ _ _ (f12.trans f3) hi, PostS.fr (f12.trans f3) p⟩
        | bk σ3 h3 => simp only [e2] at p; exact fun ι3 H3 σ' f3 rel3 rl3 => p ι3 H3 σ' (f12.trans f3) rel3 rl3
        | rt v h3 => simp only [e2] at p; exact fun ι3 H3 u f3 rel3 rl3 => p ι3 H3 u (f12.trans f3) rel3 rl3
        | ex x σ3 h3 => simp only [e2] at p; exact fun ι3 H3 cls d σ' f3 rel3 rl3 rx => p ι3 H3 cls d σ' (f12.trans f3) rel3 rl3 rx
        | bad => simp only [e2] at p; exact p
      | ex a b => simp only [e] at p; exact p
      | bad => simp only [e] at p; exact p
    · exact p.elim
  · have e : i = items.length := by omega
    subst e
    rw [List.drop_length] at p
    unfold forGo at p
    split at p
    · rename_i hc
      exact .inl ⟨S.stop ι β H mh rel hi hc, p ι H σ .refl rel rl⟩
    · exact p.elim
noncomputable def itL (v : MV) (h : MH) : Option (List MV × (MH → Bool)) := match v with
  | .lv l => some (l, fun _ => true)
  | .fz l => some (l, fun _ => true)
  | .ref n => match h[n]? with
    | some (.lst l) => some (l, fun h' => match h'[n]? with
      | some (.lst l') => beqVs l' l
      | _ => false)
    | _ => none
  | _ => none
section
variable {c : C}
theorem src_list {v : MV} {h : MH} {l : List MV} {chk : MH → Bool} {ι β : List Addr} {H : Hp} {x : V} (e : itL v h = some (l, chk)) (rel : Rel c ι β H h) (rv : RepV c.K ι β H v x) :
    ∃ a, x = .ref a ∧ (∃ xs, SqL c.K H a xs) ∧ ∃ inv, Src c (Itl c.K a) l chk inv ∧ inv ι β H := by
  cases v with
  | lv l' =>
    simp only [itL, Option.some.injEq, Prod.mk.injEq] at e
    obtain ⟨rfl, rfl⟩ := e
    unfold RepV at rv
    obtain ⟨a, vs, rfl, ⟨q, na, nb⟩, r⟩ := rv
    refine ⟨a, rfl, ⟨vs, .inl (.inl q)⟩, fun ι β H => H a = some (.lst vs) ∧ a ∉ ι ∧ a ∉ β ∧ RepVs c.K ι β H l' vs, ⟨?_, ?_, ?_, ?_, ?_⟩, q, na, nb, r⟩
    · rintro ι β H ι' H' f ⟨q, na, nb, r⟩
      obtain ⟨o, e, w⟩ := f.keep a _ q na
      exact ⟨by rw [e, w.lst], f.out q na, nb, r.mono f⟩
    · rintro ι β H mh i m rel ⟨q, na, nb, r⟩ _ hm
      obtain ⟨v, ev, rv⟩ := r.get hm
      refine ⟨⟨vs, v, .inl (.inl q), ev⟩, fun x H' hy => ?_⟩
      obtain ⟨rfl, hy⟩ := hy
      have := hy vs (.inl (.inl q))
      rw [ev] at this; cases this
      exact ⟨.refl, rel, rv⟩
    · rintro ι β H mh rel ⟨q, na, nb, r⟩ _
      exact ⟨vs, .inl (.inl q), by rw [← r.length]; exact Nat.le_refl _⟩
    · rintro ι β H D o ⟨q, na, nb, r⟩ hD
      exact ⟨by rw [upd_ne (ne_of_none q hD)]; exact q, na, fun z => (List.mem_cons.mp z).elim (ne_of_none q hD) nb, r.move (Mov.ban hD)⟩
    · rintro ι β H D o ⟨q, na, nb, r⟩
      exact ⟨by rw [upd_ne (fun z => nb (by rw [z]; exact List.mem_cons_self))]; exact q, na, nb, r.move Mov.turn⟩
  | fz l' =>
    simp only [itL, Option.some.injEq, Prod.mk.injEq] at e
    obtain ⟨rfl, rfl⟩ := e
    unfold RepV at rv
    obtain ⟨a, vs, rfl, q, r⟩ := rv
    have sq : ∀ (ι β : List Addr) (H : Hp), ((∃ o, H a = some (.frz o (.lst vs))) ∧ a ∉ ι ∧ a ∉ β ∨ KL c.K a vs) → SqL c.K H a vs := fun ι β H q => by
      rcases q with ⟨⟨o, q⟩, _⟩ | q
      · exact .inl (.inr ⟨o, q⟩)
      · exact .inr q
    refine ⟨a, rfl, ⟨vs, sq _ _ _ q⟩, fun ι β H => ((∃ o, H a = some (.frz o (.lst vs))) ∧ a ∉ ι ∧ a ∉ β ∨ KL c.K a vs) ∧ RepVs c.K ι β H l' vs, ⟨?_, ?_, ?_, ?_, ?_⟩, q, r⟩
    · rintro ι β H ι' H' f ⟨q, r⟩
      refine ⟨?_, r.mono f⟩
      rcases q with ⟨⟨o, q⟩, na, nb⟩ | q
      · exact .inl ⟨⟨o, f.frz _ _ _ q⟩, f.out q na, nb⟩
      · exact .inr q
    · rintro ι β H mh i m rel ⟨q, r⟩ _ hm
      obtain ⟨v, ev, rv⟩ := r.get hm
      refine ⟨⟨vs, v, sq _ _ _ q, ev⟩, fun x H' hy => ?_⟩
      obtain ⟨rfl, hy⟩ := hy
      have := hy vs (sq _ _ _ q)
      rw [ev] at this; cases this
      exact ⟨.refl, rel, rv⟩
    · rintro ι β H mh rel ⟨q, r⟩ _
      exact ⟨vs, sq _ _ _ q, by rw [← r.length]; exact Nat.le_refl _⟩
    · rintro ι β H D o ⟨q, r⟩ hD
      refine ⟨?_, r.move (Mov.ban hD)⟩
      rcases q with ⟨⟨o', q⟩, na, nb⟩ | q
      · exact .inl ⟨⟨o', by rw [upd_ne (ne_of_none q hD)]; exact q⟩, na, fun z => (List.mem_cons.mp z).elim (ne_of_none q hD) nb⟩
      · exact .inr q
    · rintro ι β H D o ⟨q, r⟩
      refine ⟨?_, r.move Mov.turn⟩
      rcases q with ⟨⟨o', q⟩, na, nb⟩ | q
      · exact .inl ⟨⟨o', by rw [upd_ne (fun z => nb (by rw [z]; exact List.mem_cons_self))]; exact q⟩, na, nb⟩
      · exact .inr q
  | ref n =>
    unfold itL at e
    simp only at e
    cases eo : h[n]? with
    | none => simp only [eo] at e; cases e
    | some o =>
      cases o with
      | lst l' =>
        simp only [eo, Option.some.injEq, Prod.mk.injEq] at e
        obtain ⟨rfl, rfl⟩ := e
        unfold RepV at rv
        obtain ⟨a, rfl, ea⟩ := rv
        have key : ∀ ι β H mh, Rel c ι β H mh → ι[n]? = some a → (match mh[n]? with | some (.lst l2) => beqVs l2 l' | _ => false) = true → ∃ vs, H a = some (.lst vs) ∧ RepVs c.K ι β H l' vs := by
          intro ι β H mh rel ea hc
          obtain ⟨o, e1, ro⟩ := rel.at ea
          rw [e1] at hc
          cases o with
          | lst l2 =>
            have := beqVs_eq hc
            subst this
            exact ro
          | dct _ => cases hc
          | fdc _ => cases hc
          | odc _ _ _ _ => cases hc
          | dtt _ => cases hc
          | fdt _ => cases hc
          | ins _ _ => cases hc
        refine ⟨a, rfl, ?_, fun ι β H => ι[n]? = some a, ⟨?_, ?_, ?_, fun _ _ _ _ _ z _ => z, fun _ _ _ _ _ z => z⟩, ea⟩
        · obtain ⟨vs, q, _⟩ := key ι β H h rel ea (by rw [eo]; simp)
          exact ⟨vs, .inl (.inl q)⟩
        · intro ι β H ι' H' f q
          exact f.get q
        · intro ι β H mh i m rel ea hc hm
          obtain ⟨vs, q, r⟩ := key ι β H mh rel ea hc
          obtain ⟨v, ev, rv⟩ := r.get hm
          refine ⟨⟨vs, v, .inl (.inl q), ev⟩, fun x H' hy => ?_⟩
          obtain ⟨rfl, hy⟩ := hy
          have := hy vs (.inl (.inl q))
          rw [ev] at this; cases this
          exact ⟨.refl, rel, rv⟩
        · intro ι β H mh rel ea hc
          obtain ⟨vs, q, r⟩ := key ι β H mh rel ea hc
          exact ⟨vs, .inl (.inl q), by rw [← r.length]; exact Nat.le_refl _⟩
      | dct _ => simp only [eo] at e; cases e
      | fdc _ => simp only [eo] at e; cases e
      | odc _ _ _ _ => simp only [eo] at e; cases e
      | dtt _ => simp only [eo] at e; cases e
      | fdt _ => simp only [eo] at e; cases e
      | ins _ _ => simp only [eo] at e; cases e
  | _ => cases e
/-- a, a + c, .. (n of them) -/
noncomputable def rgM (lo d : Int) (n : Nat) : List MV := (List.range n).map fun i => MV.int (lo + (i : Nat) * d)
theorem src_rangeC {lo d : Int} {n : Nat} : Src c (Itc lo d n) (rgM lo d n) (fun _ => true) (fun _ _ _ => True) := by
  refine ⟨fun _ _ _ _ _ _ _ => trivial, fun ι β H mh i m rel _ _ hm => ?_, fun ι β H mh rel _ _ => by show n ≤ _; simp [rgM], fun _ _ _ _ _ _ _ => trivial, fun _ _ _ _ _ _ => trivial⟩
  unfold rgM at hm
  rw [List.getElem?_map] at hm
  cases e : (List.range n)[i]? with
  | none => rw [e] at hm; cases hm
  | some j =>
    rw [e] at hm
    simp only [Option.map_some, Option.some.injEq] at hm
    subst hm
    obtain ⟨hj, ej⟩ := List.getElem?_eq_some_iff.mp e
    rw [List.length_range] at hj
    rw [List.getElem_range] at ej
    subst ej
    refine ⟨hj, fun x H' hy => ?_⟩
    obtain ⟨rfl, rfl⟩ := hy
    exact ⟨.refl, rel, rint _ _ _⟩
theorem src_range {lo : Int} {n : Nat} : Src c (Itr lo n) (rgM lo 1 n) (fun _ => true) (fun _ _ _ => True) := by
  refine ⟨fun _ _ _ _ _ _ _ => trivial, fun ι β H mh i m rel _ _ hm => ?_, fun ι β H mh rel _ _ => by show n ≤ _; simp [rgM], fun _ _ _ _ _ _ _ => trivial, fun _ _ _ _ _ _ => trivial⟩
  obtain ⟨go, yl⟩ := (src_rangeC (lo := lo) (d := 1) (n := n)).go ι β H mh i m rel trivial rfl hm
  refine ⟨go, fun x H' hy => yl x H' ?_⟩
  obtain ⟨rfl, rfl⟩ := hy
  exact ⟨rfl, by rw [Int.mul_one]⟩
end
abbrev IM := Lo → MH → R (List MV × (MH → Bool))
/-- the walk's start: as a reading -/
noncomputable def tI (c : C) (W : WX) (r : IM) : TI := fun σ H R => ∃ ι β mh σm, Rel c ι β H mh ∧ RepL c ι β H σm σ ∧
  match r σm mh with
  | .ok (l, chk) h1 => ∀ ι' H' J inv, Fr ι H ι' H' → Rel c ι' β H' h1 → Src c J l chk inv → inv ι' β H' → R J H'
  | .ex e h1 => ∀ ι' H' cls d, Fr ι H ι' H' → Rel c ι' β H' h1 → RepX c ι' β H' e cls d → W cls d σ H'
  | .bad => False
section
variable {X : Cx} {c : C} {W : WX} {tg e : Expr} {re : EM} {rs : AM} {pos p : Pos}
theorem _root_.L2.PI.wk {iter : Expr} {w w' : TI} (h : PI X tg iter w) (q : ∀ σ H R, w' σ H R → w σ H R) : PI X tg iter w' := ⟨fun pins s σ H R I r => h.run pins s σ H R I (q σ H R r)⟩
@[simp] noncomputable def iL (re : EM) : IM := fun σ h => bindR (re σ h) fun v h1 => match itL v h1 with
  | some r => .ok r h1
  | none => .bad
theorem runI {α δ : Type} {Rp : List Addr → List Addr → Hp → α → δ → Prop} {ra : Lo → MH → R α} {k : α → MH → R (List MV × (MH → Bool))} {σ : St} {H : Hp} {Q : It → Hp → Prop} (h : tI c W (fun σ h => bindR (ra σ h) k) σ H Q) :
    tR c W Rp ra σ H (fun b H1 => ∃ ι1 β mh1 σm a, Rel c ι1 β H1 mh1 ∧ RepL c ι1 β H1 σm σ ∧ Rp ι1 β H1 a b ∧ match k a mh1 with
      | .ok (l, chk) h1 => ∀ ι' H' J inv, Fr ι1 H1 ι' H' → Rel c ι' β H' h1 → Src c J l chk inv → inv ι' β H' → Q J H'
      | .ex e h1 => ∀ ι' H' cls d, Fr ι1 H1 ι' H' → Rel c ι' β H' h1 → RepX c ι' β H' e cls d → W cls d σ H'
      | .bad => False) := by
  obtain ⟨ι, β, mh, σm, rel, rl, p⟩ := h
  refine ⟨ι, β, mh, σm, rel, rl, ?_⟩
  dsimp only at p
  cases e : ra σm mh with
  | ok a h' =>
    rw [e] at p
    intro ι' H' b f r q
    refine ⟨ι', β, h', σm, a, r, rl.mono f, q, ?_⟩
    simp only [bindR] at p
    cases e2 : k a h' with
    | ok lc h1 =>
      obtain ⟨l, chk⟩ := lc
      simp only [e2] at p ⊢
      exact fun ι2 H2 J inv f2 => p ι2 H2 J inv (f.trans f2)
    | ex x h1 => simp only [e2] at p ⊢; exact fun ι2 H2 cls d f2 => p ι2 H2 cls d (f.trans f2)
    | bad => simp only [e2] at p
  | ex x h' => rw [e] at p; exact p
  | bad => rw [e] at p; exact p
theorem i_list (hK : X.K = c.K) (he : PE X e (tE c W re)) : PI X tg e (tI c W (iL re)) :=
  (pi_list he).wk fun σ H R h => by
    refine (runI (Rp := RV c) h).mono fun x H1 ⟨ι1, β, mh1, σm, v, rel, rl, rv, p⟩ => ?_
    cases ei : itL v mh1 with
    | none => simp only [ei] at p
    | some lc =>
      obtain ⟨l, chk⟩ := lc
      simp only [ei] at p
      obtain ⟨a, rfl, sq, inv, S, hi⟩ := src_list ei rel rv
      rw [hK]
      exact ⟨a, rfl, sq, p ι1 H1 _ inv .refl rel S hi⟩
@[simp] noncomputable def itT (v : MV) (h : MH) : R (List MV × (MH → Bool)) := match v with
  | .tup l => .ok (l, fun _ => true) h
  | _ => .bad
@[simp] noncomputable def iT (re : EM) : IM := fun σ h => bindR (re σ h) itT
noncomputable def B62 : Int := 4611686018427387904
noncomputable def inB (i : Int) : Bool := decide (-B62 ≤ i) && decide (i < B62)
theorem inB_iff {i : Int} (h : inB i = true) : -(2 ^ 62) ≤ i ∧ i < 2 ^ 62 := by
  unfold inB at h
  simp only [Bool.and_eq_true, decide_eq_true_eq] at h
  exact h
@[simp] noncomputable def itR1 (as : List MV) (h : MH) : R (List MV × (MH → Bool)) := match as with
  | [.int j] => if inB j = true then .ok (rgM 0 1 j.toNat, fun _ => true) h else .bad
  | _ => .bad
@[simp] noncomputable def itR2 (as : List MV) (h : MH) : R (List MV × (MH → Bool)) := match as with
  | [.int i, .int j] => if (inB i && inB j) = true then .ok (rgM i 1 (j - i).toNat, fun _ => true) h else .bad
  | _ => .bad
/-- steps upward -/
@[simp] noncomputable def itR3 (as : List MV) (h : MH) : R (List MV × (MH → Bool)) := match as with
  | [.int i, .int j, .int d] => if (inB i && inB j && decide (0 < d) && decide (d < 1000000)) = true then .ok (rgM i d (Builtin.Range.rangeSize i j d).toNat, fun _ => true) h else .bad
  | _ => .bad
theorem Vs1 {K : PySem.W.Frag} {ι β : List Addr} {H : Hp} {m : MV} {vs : List V} (h : RepVs K ι β H [m] vs) : ∃ v, vs = [v] ∧ RepV K ι β H m v := by
  obtain ⟨v, r, rfl, q, t⟩ := h.cons_iff
  rw [t.nil_iff]; exact ⟨v, rfl, q⟩
theorem Vs2 {K : PySem.W.Frag} {ι β : List Addr} {H : Hp} {m m' : MV} {vs : List V} (h : RepVs K ι β H [m, m'] vs) : ∃ v v', vs = [v, v'] ∧ RepV K ι β H m v ∧ RepV K ι β H m' v' := by
  obtain ⟨v, r, rfl, q, t⟩ := h.cons_iff
  obtain ⟨v', rfl, q'⟩ := Vs1 t
  exact ⟨v, v', rfl, q, q'⟩
theorem ri {K : PySem.W.Frag} {ι β : List Addr} {H : Hp} {i : Int} {v : V} (h : RepV K ι β H (.int i) v) : v = .int i := by unfold RepV at h; exact h
theorem itR1_ok {as : List MV} {h h1 : MH} {r : List MV × (MH → Bool)} (e : itR1 as h = .ok r h1) : ∃ j, as = [.int j] ∧ inB j = true ∧ r = (rgM 0 1 j.toNat, fun _ => true) ∧ h1 = h := by
  unfold itR1 at e
  split at e
  · split at e
    · cases e; exact ⟨_, rfl, by assumption, rfl, rfl⟩
    · cases e
  · cases e
theorem itR1_nex {as : List MV} {h h1 : MH} {x : MX} : itR1 as h ≠ .ex x h1 := fun e => by
  unfold itR1 at e
  split at e
  · split at e <;> cases e
  · cases e
theorem itR2_ok {as : List MV} {h h1 : MH} {r : List MV × (MH → Bool)} (e : itR2 as h = .ok r h1) : ∃ i j, as = [.int i, .int j] ∧ inB i = true ∧ inB j = true ∧ r = (rgM i 1 (j - i).toNat, fun _ => true) ∧ h1 = h := by
  unfold itR2 at e
  split at e
  · split at e
    · rename_i hb
      rw [Bool.and_eq_true] at hb
      cases e; exact ⟨_, _, rfl, hb.1, hb.2, rfl, rfl⟩
    · cases e
  · cases e
theorem itR2_nex {as : List MV} {h h1 : MH} {x : MX} : itR2 as h ≠ .ex x h1 := fun e => by
  unfold itR2 at e
  split at e
  · split at e <;> cases e
  · cases e
theorem i_range1 {a : Expr} (hg : Gl X "range") (hm : X.mg "range" = none) (ha : PA X [a] (tA c W rs)) (hs : starEach [a] X.env = [(false, eval a X.env)] := by rfl) : PI X tg (.Call (.Name "range" p) [a] [] pos) (tI c W (fun σ h => bindR (rs σ h) itR1)) :=
  (pi_range1 hg hm ha hs).wk fun σ H R h => by
    refine (runI (Rp := RVs c) h).mono fun xs H1 ⟨ι1, β, mh1, σm, as, rel, rl, rv, p⟩ => ?_
    cases e : itR1 as mh1 with
    | ok r h1 =>
      obtain ⟨j, rfl, hb, rfl, rfl⟩ := itR1_ok e
      simp only [e] at p
      obtain ⟨v, rfl, q⟩ := Vs1 rv
      obtain ⟨h1, h2⟩ := inB_iff hb
      exact ⟨j, by rw [ri q], h1, h2, p ι1 H1 _ _ .refl rel src_range trivial⟩
    | ex x h1 => exact absurd e itR1_nex
    | bad => simp only [e] at p
theorem i_range2 {a b : Expr} (hg : Gl X "range") (hm : X.mg "range" = none) (ha : PA X [a, b] (tA c W rs)) (hs : starEach [a, b] X.env = [(false, eval a X.env), (false, eval b X.env)] := by rfl) (hs2 : starEach [b] X.env = [(false, eval b X.env)] := by rfl) : PI X tg (.Call (.Name "range" p) [a, b] [] pos) (tI c W (fun σ h => bindR (rs σ h) itR2)) :=
  (pi_range2 hg hm ha hs hs2).wk fun σ H R h => by
    refine (runI (Rp := RVs c) h).mono fun xs H1 ⟨ι1, β, mh1, σm, as, rel, rl, rv, p⟩ => ?_
    cases e : itR2 as mh1 with
    | ok r h1 =>
      obtain ⟨i, j, rfl, hb, hb', rfl, rfl⟩ := itR2_ok e
      simp only [e] at p
      obtain ⟨v, v', rfl, q, q'⟩ := Vs2 rv
      obtain ⟨h1, h2⟩ := inB_iff hb
      obtain ⟨h3, h4⟩ := inB_iff hb'
      exact ⟨i, j, by rw [ri q, ri q'], ⟨h1, h2, h3, h4⟩, p ι1 H1 _ _ .refl rel src_range trivial⟩
    | ex x h1 => exact absurd e itR2_nex
    | bad => simp only [e] at p
@[simp] noncomputable def sFor (r : IM) (g : GM) (body : SM) : SM := fun σ h => bindS (r σ h) σ fun lc h1 => forGo lc.2 g body lc.1 σ h1
theorem s_for {iter : Expr} {body : List Stmt} {r : IM} {g : GM} {rb : SM} (hp : PassesOwn (model X.prog X.w) X.A X.env X.xe) (hc : X.calm = true) (hi : PI X tg iter (tI c W r)) (hg : PG X tg (tG c g)) (hb : PSs X body (tS c W rb))
    (hs : ∀ x, foldedSetIterable iter X.env x = pure x := by intro _; rfl) : PS X (.For tg iter body [] pos) (tS c W (sFor r g rb)) :=
  (ps_for hp hc hi hg hb hs).wk fun D σ H ⟨ι, β, mh, σm, rel, rl, p⟩ => by
    refine ⟨ι, β, mh, σm, rel, rl, ?_⟩
    unfold sFor at p
    cases e : r σm mh with
    | ok lc h1 =>
      obtain ⟨l, chk⟩ := lc
      simp only [e, bindS] at p
      exact fun ι' H' J inv f rel' S hi => for_of S rel' (rl.mono f) hi (PostS.fr f p)
    | ex x h1 => simp only [e, bindS] at p; exact fun ι' H' cls d f rel' rx => p ι' H' cls d σ f rel' (rl.mono f) rx
    | bad => simp only [e, bindS] at p; exact p
end
end MP
namespace MP
open PySem PySem.Spec PyProof.Rows L2
/-- what a comprehension's turn is bound to -/
inductive TP where
  | nm (i : Nat)
  | tp (l : List TP)
mutual
noncomputable def asP : TP → MV → Lo → Option Lo
  | .nm i, m, σ => some (σ.set i (some m))
  | .tp l, m, σ => match m with
    | .tup ms => asPs l ms σ
    | _ => none
noncomputable def asPs : List TP → List MV → Lo → Option Lo
  | [], [], σ => some σ
  | p :: l, m :: ms, σ => match asP p m σ with
    | some σ1 => asPs l ms σ1
    | none => none
  | _, _, _ => none
end
/-- a target's reading does what the pattern says -/
noncomputable def RdOk (c : C) (vs : List Nat) (g : TG) (p : TP) : Prop := ∀ ι β H mh m v σm σ σm1 (Q : St → Hp → Prop), Rel c ι β H mh → RepL c ι β H σm σ → RepV c.K ι β H m v → asP p m σm = some σm1 →
  (∀ σ', RepL c ι β H σm1 σ' → wipe σ' vs = wipe σ vs → Q σ' H) → g v σ H Q
noncomputable def RdsOk (c : C) (vs : List Nat) (g : TGs) (p : List TP) : Prop := ∀ ι β H mh ms us σm σ σm1 (Q : St → Hp → Prop), Rel c ι β H mh → RepL c ι β H σm σ → RepVs c.K ι β H ms us → asPs p ms σm = some σm1 →
  (∀ σ', RepL c ι β H σm1 σ' → wipe σ' vs = wipe σ vs → Q σ' H) → g us σ H Q
theorem wipe_set {σ : St} {i : Nat} {v : Option V} : ∀ {vs : List Nat}, i ∈ vs → wipe (σ.set i v) vs = wipe σ vs
  | [], h => by simp at h
  | j :: vs, h => by
    unfold wipe
    by_cases e : j = i
    · subst e
      by_cases h2 : j ∈ vs
      · rw [wipe_set h2]
      · have key : ∀ (ws : List Nat) (τ : St), (wipe (τ.set j v) ws).set j none = (wipe τ ws).set j none := by
          intro ws
          induction ws with
          | nil => intro τ; show (τ.set j v).set j none = τ.set j none; rw [List.set_set]
          | cons k ws ih =>
            intro τ
            unfold wipe
            by_cases e : k = j
            · subst e; rw [ih]
            · rw [List.set_comm _ _ e, ih, List.set_comm _ _ (Ne.symm e)]
        exact key vs σ
    · rcases List.mem_cons.mp h with h2 | h2
      · exact absurd h2.symm e
      · rw [wipe_set h2]
section
variable {c : C} {vs : List Nat}
theorem rd_name {i : Nat} (h : i ∈ vs) : RdOk c vs (gName i) (.nm i) := fun ι β H mh m v σm σ σm1 Q rel rl rv e q => by
  unfold asP at e
  cases e
  exact q _ (rl.set rv) (wipe_set h)
theorem rds_nil : RdsOk c vs gNil [] := fun ι β H mh ms us σm σ σm1 Q rel rl rv e q => by
  cases ms with
  | nil =>
    unfold asPs at e
    cases e
    exact ⟨rv.nil_iff, q σ rl rfl⟩
  | cons a l => unfold asPs at e; cases e
theorem rds_cons {g : TG} {gs : TGs} {p : TP} {ps : List TP} (h1 : RdOk c vs g p) (h2 : RdsOk c vs gs ps) : RdsOk c vs (gCons g gs) (p :: ps) := fun ι β H mh ms us σm σ σm1 Q rel rl rv e q => by
  cases ms with
  | nil => unfold asPs at e; cases e
  | cons m ms =>
    obtain ⟨u, r, rfl, q1, t⟩ := rv.cons_iff
    unfold asPs at e
    cases e1 : asP p m σm with
    | none => simp [e1] at e
    | some σ1 =>
      simp only [e1] at e
      exact ⟨u, r, rfl, h1 _ _ _ _ _ _ _ _ _ _ rel rl q1 e1 fun σ' rl' w1 => h2 _ _ _ _ _ _ _ _ _ _ rel rl' t e fun σ2 rl2 w2 => q σ2 rl2 (w2.trans w1)⟩
theorem asPs_len : ∀ {ps : List TP} {ms : List MV} {σ σ1 : Lo}, asPs ps ms σ = some σ1 → ms.length = ps.length
  | [], [], _, _, _ => rfl
  | [], _ :: _, _, _, e => by unfold asPs at e; cases e
  | _ :: _, [], _, _, e => by unfold asPs at e; cases e
  | p :: ps, m :: ms, σ, _, e => by
    unfold asPs at e
    cases e1 : asP p m σ with
    | none => simp [e1] at e
    | some σ1 => simp only [e1] at e; simp [asPs_len e]
theorem rd_tup {K : PySem.W.Frag} {gs : TGs} {ps : List TP} {n : Nat} (hK : K = c.K) (hn : n = ps.length) (h : RdsOk c vs gs ps) : RdOk c vs (gTup K n gs) (.tp ps) := fun ι β H mh m v σm σ σm1 Q rel rl rv e q => by
  unfold asP at e
  cases m with
  | tup ms =>
    simp only at e
    obtain ⟨a, us, rfl, sq, r⟩ := rv.tup_iff
    exact ⟨a, us, rfl, by rw [hK]; exact sq, by rw [← r.length, asPs_len e, hn], h _ _ _ _ _ _ _ _ _ _ rel rl r e q⟩
  | _ => cases e
end
noncomputable def lcGo (chk : MH → Bool) (p : TP) (t : TM) (e : EM) : List MV → Lo → MH → R (List MV)
  | [], _, h => if chk h = true then .ok [] h else .bad
  | x :: xs, σ, h => if chk h = true then match asP p x σ with
      | none => .bad
      | some σ1 => match t σ1 h with
        | .ok k h1 => if k = true then match e σ1 h1 with
            | .ok v h2 => match lcGo chk p t e xs σ h2 with
              | .ok r h3 => .ok (v :: r) h3
              | _ => .bad
            | _ => .bad
          else lcGo chk p t e xs σ h1
        | _ => .bad
    else .bad
noncomputable def clrL (vs : List Nat) (σ : Lo) : Lo := vs.foldr (fun i l => l.set i none) σ
theorem Fr.updN {ι ι' : List Addr} {H H' : Hp} {D : Addr} {o : HO} (f : Fr ι H ι' H') (h : H D = none) : Fr ι H ι' (upd H' D o) :=
  ⟨f.pre, fun a u e n => by
    obtain ⟨o', e', w⟩ := f.keep a u e n
    exact ⟨o', by rw [upd_ne (ne_of_none e h)]; exact e', w⟩, f.news, fun a od u e => by rw [upd_ne (ne_of_none e h)]; exact f.frz a od u e⟩
abbrev W0 : WX := fun _ _ _ _ => False
/-- what is wanted of the list's end -/
noncomputable def PostC (c : C) (ι1 β : List Addr) (H1 : Hp) (D : Addr) (accm : List MV) (Q : Hp → Prop) : R (List MV) → Prop
  | .ok r h' => ∀ ι' H' vs', Fr ι1 H1 ι' H' → Rel c ι' (D :: β) H' h' → H' D = some (.lst vs') → RepVs c.K ι' (D :: β) H' (accm ++ r) vs' → Q H'
  | _ => False
theorem lc_of {c : C} {J : It} {items : List MV} {chk : MH → Bool} {inv : List Addr → List Addr → Hp → Prop} {ι1 β : List Addr} {H1 : Hp} {mh : MH} {σm : Lo} {σ : St} {p : TP} {t : TM} {e : EM} {g : TG} {vs : List Nat} {D : Addr} {Q : Hp → Prop}
    (S : Src c J items chk inv)
    (rd : RdOk c vs g p) (hl : items.length ≤ SZ) (rel : Rel c ι1 β H1 mh) (rl : RepL c ι1 β H1 σm σ) (hi : inv ι1 β H1) (hD : H1 D = none)
    (q : PostC c ι1 β H1 D [] Q (lcGo chk p t e items (clrL vs σm) mh)) :
    ∃ W : Nat → Nat → Hp → Prop, (∃ m, W 0 m (upd H1 D (.lst []))) ∧ ∀ i m H, W i m H →
      (J.stop i H ∧ Q H) ∨ (J.go i H ∧ ∃ Nx : Hp → Prop, (∀ H', Nx H' → ∃ m', m' < m ∧ W (i + 1) m' H') ∧ ∀ x H', J.yld i H x H' → g x (wipe σ vs) H' fun σ2 H2 => wipe σ2 vs = wipe σ vs ∧ tT c W0 t σ2 H2 fun b H3 =>
        if b = true then tE c W0 e σ2 H3 fun y H4 => ∃ acc, H4 D = some (.lst acc) ∧ acc.length < sizeLine ∧ Nx (upd H4 D (.lst (acc ++ [y]))) else Nx H3) := by
  have nf : ∀ (l : List V) od u, HO.lst l ≠ .frz od u := fun l od u z => by cases z
  refine ⟨fun i m H => m = items.length - i ∧ i ≤ items.length ∧ ∃ ι mh accm accv, Rel c ι (D :: β) H mh ∧ RepL c ι (D :: β) H (clrL vs σm) (wipe σ vs) ∧ inv ι (D :: β) H ∧ Fr ι1 H1 ι H ∧ H D = some (.lst accv) ∧ RepVs c.K ι (D :: β) H accm accv ∧ accv.length ≤ i ∧
      PostC c ι1 β H1 D accm Q (lcGo chk p t e (items.drop i) (clrL vs σm) mh),
    ⟨items.length, by simp, Nat.zero_le _, ι1, mh, [], [], rel.ban' hD (nf _), (rl.clear vs).move (Mov.ban hD), S.ban _ _ _ _ _ hi hD, ?_, upd_same, .nil, Nat.zero_le _, by simpa using q⟩, ?_⟩
  · exact Fr.updN .refl hD
  · rintro i m H ⟨rfl, hle, ι, mh, accm, accv, rel, rl, hi, fr, hDl, ra, hal, q⟩
    by_cases hlt : i < items.length
    · rw [List.drop_eq_getElem_cons hlt] at q
      unfold lcGo at q
      split at q
      · rename_i hc
        obtain ⟨go, yl⟩ := S.go ι (D :: β) H mh i items[i] rel hi hc (List.getElem?_eq_getElem hlt)
        refine .inr ⟨go, fun H' => ∃ ι mh accm accv, Rel c ι (D :: β) H' mh ∧ RepL c ι (D :: β) H' (clrL vs σm) (wipe σ vs) ∧ inv ι (D :: β) H' ∧ Fr ι1 H1 ι H' ∧ H' D = some (.lst accv) ∧ RepVs c.K ι (D :: β) H' accm accv ∧ accv.length ≤ i + 1 ∧
          PostC c ι1 β H1 D accm Q (lcGo chk p t e (items.drop (i + 1)) (clrL vs σm) mh), fun H' hN => ⟨items.length - (i + 1), by omega, rfl, hlt, hN⟩, fun x H' hy => ?_⟩
        obtain ⟨f1, rel1, rx⟩ := yl x H' hy
        have ww : wipe (wipe σ vs) vs = wipe σ vs := by
          have gen : ∀ (ws : List Nat) (τ : St), (∀ j ∈ ws, ∀ v, τ[j]? = some v → v = none) → wipe τ ws = τ := by
            intro ws
            induction ws with
            | nil => intro τ _; rfl
            | cons k ws ih =>
              intro τ h
              unfold wipe
              rw [ih τ fun j hj => h j (List.mem_cons_of_mem _ hj)]
              apply List.ext_getElem?
              intro j
              rw [List.getElem?_set]
              split
              · rename_i e
                subst e
                split
                · rename_i hk
                  cases e2 : τ[k]? with
                  | none => rw [List.getElem?_eq_getElem hk] at e2; cases e2
                  | some v => rw [h k List.mem_cons_self v e2]
                · rename_i hk
                  rw [List.getElem?_eq_none (by omega)]
              · rfl
          refine gen vs _ fun j hj v hv => ?_
          cases v with
          | none => rfl
          | some z => exact absurd hj (wipe_some hv).2
        cases ea : asP p items[i] (clrL vs σm) with
        | none => simp only [ea] at q; exact q.elim
        | some σ1 =>
          simp only [ea] at q
          refine rd ι (D :: β) H' mh items[i] x _ _ σ1 _ rel1 (rl.mono f1) rx ea fun σ' rl' hw => ⟨hw.trans ww, ?_⟩
          have frH' := fr.trans f1
          refine ⟨ι, D :: β, mh, σ1, rel1, rl', ?_⟩
          have hDk : ∀ {ι' : List Addr} {H2 : Hp}, Fr ι H' ι' H2 → H2 D = some (.lst accv) := fun {ι' H2} f2 => by
            obtain ⟨_, _, nD, _⟩ := rel.ban D List.mem_cons_self
            obtain ⟨o1, e1, w1⟩ := f1.keep D _ hDl nD
            obtain ⟨o2, e2, w2⟩ := f2.keep D _ e1 nD
            rw [e2, w1.lst] at *
            rw [w2.lst]
          cases et : t σ1 mh with
          | ok k h1 =>
            simp only [et] at q
            intro ι2 H2 b f2 rel2 hb
            obtain rfl : k = b := hb
            cases k with
            | true =>
              rw [if_pos rfl] at q ⊢
              refine ⟨ι2, D :: β, h1, σ1, rel2, rl'.mono f2, ?_⟩
              cases ee : e σ1 h1 with
              | ok v h2 =>
                simp only [ee] at q
                intro ι3 H3 y f3 rel3 ry
                have f23 := f2.trans f3
                have hD3 := hDk f23
                refine ⟨accv, hD3, by rw [sz_eq]; omega, ι3, h2, accm ++ [v], accv ++ [y], rel3.turn (nf _), ((rl.mono (f1.trans f23)).move Mov.turn), S.turn _ _ _ _ _ (S.mono _ _ _ _ _ (f1.trans f23) hi), Fr.updN (frH'.trans f23) hD, upd_same, ((ra.mono (f1.trans f23)).append (.cons ry .nil)).move Mov.turn, by simp; omega, ?_⟩
                cases er : lcGo chk p t e (items.drop (i + 1)) (clrL vs σm) h2 with
                | ok r h3 =>
                  simp only [er] at q
                  intro ι' H' vs' f rel' hD' rv'
                  exact q ι' H' vs' f rel' hD' (by simpa using rv')
                | ex a b => simp only [er] at q; exact q
                | bad => simp only [er] at q; exact q
              | ex a b => simp only [ee] at q; exact q.elim
              | bad => simp only [ee] at q; exact q
            | false =>
              rw [if_neg Bool.false_ne_true] at q ⊢
              exact ⟨ι2, h1, accm, accv, rel2, rl.mono (f1.trans f2), S.mono _ _ _ _ _ (f1.trans f2) hi, frH'.trans f2, hDk f2, ra.mono (f1.trans f2), by omega, q⟩
          | ex a b => simp only [et] at q; exact q.elim
          | bad => simp only [et] at q; exact q
      · exact q.elim
    · have ei : i = items.length := by omega
      subst ei
      rw [List.drop_length] at q
      unfold lcGo at q
      split at q
      · rename_i hc
        exact .inl ⟨S.stop ι (D :: β) H mh rel hi hc, q ι H accv fr rel hDl (by simpa using ra)⟩
      · exact q.elim
section
variable {X : Cx} {c : C} {W : WX}
/-- its list, unchanging or new -/
noncomputable def mLc (r : IM) (p : TP) (t : TM) (e : EM) (vs : List Nat) (fin : List MV → MH → R MV) : EM := fun σ h => bindR (r σ h) fun lc h1 =>
  if lc.1.length ≤ SZ then match lcGo lc.2 p t e lc.1 (clrL vs σ) h1 with
    | .ok l h2 => fin l h2
    | _ => .bad
  else .bad
@[simp] noncomputable def finV (l : List MV) (h : MH) : R MV := .ok (.lv l) h
@[simp] noncomputable def finR (l : List MV) (h : MH) : R MV := .ok (.ref h.length) (h ++ [.lst l])
/-- how the list that was built is handed on -/
noncomputable def FinOk (c : C) (fin : List MV → MH → R MV) : Prop := ∀ ι1 β H1 mh0 D ι' H' l vs' h' Q W, Rel c ι1 β H1 mh0 → H1 D = none → Fr ι1 H1 ι' H' → Rel c ι' (D :: β) H' h' → H' D = some (.lst vs') → RepVs c.K ι' (D :: β) H' l vs' → Post c ι1 β H1 (RV c) Q W (fin l h') → Q (.ref D) H'
theorem fin_V : FinOk c finV := fun ι1 β H1 mh0 D ι' H' l vs' h' Q W rel0 hD f rel hD' rv p => by
  obtain ⟨_, _, nD, _⟩ := rel.ban D List.mem_cons_self
  refine p ι' H' (.ref D) f rel.free ?_
  unfold RepV
  exact ⟨D, vs', rfl, ⟨hD', nD, nban rel0 hD⟩, rv.move Mov.free⟩
/-- a built thing is mapped -/
theorem Mov.own {ι β : List Addr} {H : Hp} {D : Addr} : Mov ι (D :: β) H (ι ++ [D]) β H :=
  ⟨fun a u e n nb => ⟨⟨u, e, .rfl'⟩, fun z => by
    rcases List.mem_append.mp z with z | z
    · exact n z
    · have : a = D := by simpa using z
      exact nb (by rw [this]; exact List.mem_cons_self), fun z => nb (List.mem_cons_of_mem _ z)⟩, fun n a h => by
    rw [List.getElem?_append_left (List.getElem?_eq_some_iff.mp h).1]; exact h⟩
theorem Rel.own {ι β : List Addr} {H : Hp} {D : Addr} {mh : MH} {mo : MO} (nb : D ∉ β) (r : Rel c ι (D :: β) H mh) (q : RepO c (ι ++ [D]) β H D mo) : Rel c (ι ++ [D]) β H (mh ++ [mo]) := by
  obtain ⟨_, _, nD, _⟩ := r.ban D List.mem_cons_self
  refine ⟨by simp [r.len], ?_, fun b hb => ?_, fun n u e => ?_⟩
  · refine List.nodup_append.mpr ⟨r.nd, by simp, fun a ha b hb => ?_⟩
    have : b = D := by simpa using hb
    subst this
    rintro rfl
    exact nD ha
  · obtain ⟨u, e, n, nf⟩ := r.ban b (List.mem_cons_of_mem _ hb)
    refine ⟨u, e, fun z => ?_, nf⟩
    rcases List.mem_append.mp z with z | z
    · exact n z
    · have : b = D := by simpa using z
      exact nb (by rw [← this]; exact hb)
  · by_cases hn : n < mh.length
    · rw [List.getElem?_append_left hn] at e
      obtain ⟨a, e1, q1⟩ := r.obj n u e
      refine ⟨a, ?_, q1.move Mov.own rfl⟩
      rw [List.getElem?_append_left (by rw [← r.len]; exact hn)]
      exact e1
    · rw [List.getElem?_append_right (by omega)] at e
      have hz : n - mh.length = 0 := by
        have := (List.getElem?_eq_some_iff.mp e).1
        simp at this
        exact this
      rw [hz] at e
      simp at e
      subst e
      refine ⟨D, ?_, q⟩
      rw [List.getElem?_append_right (by rw [← r.len]; omega), ← r.len, hz]
      rfl
theorem fin_R : FinOk c finR := fun ι1 β H1 mh0 D ι' H' l vs' h' Q W rel0 hD f rel hD' rv p => by
  have nb := nban rel0 hD
  obtain ⟨_, _, nD, _⟩ := rel.ban D List.mem_cons_self
  refine p (ι' ++ [D]) H' (.ref D) ⟨?_, f.keep, fun a z n => ?_, f.frz⟩ (rel.own nb ⟨vs', hD', rv.move Mov.own⟩) ?_
  · obtain ⟨t, rfl⟩ := f.pre
    exact ⟨t ++ [D], by simp⟩
  · rcases List.mem_append.mp z with z | z
    · exact f.news a z n
    · have : a = D := by simpa using z
      rw [this]; exact hD
  · unfold RepV
    refine ⟨D, rfl, ?_⟩
    rw [rel.len, List.getElem?_append_right (Nat.le_refl _)]
    simp
theorem mLc_of {r : IM} {p : TP} {t : TM} {e : EM} {vs : List Nat} {fin : List MV → MH → R MV} {g : TG} {σ : St} {H : Hp} {Q : VK} (fo : FinOk c fin) (rd : RdOk c vs g p) (h : tE c W (mLc r p t e vs fin) σ H Q) : tLc (tI c W r) g (tT c W0 t) (tE c W0 e) vs σ H Q := by
  obtain ⟨ι, β, mh, σm, rel, rl, q⟩ := h
  refine ⟨ι, β, mh, σm, rel, rl, ?_⟩
  unfold mLc at q
  cases er : r σm mh with
  | ok lc h1 =>
    obtain ⟨l, chk⟩ := lc
    simp only [er, bindR] at q
    intro ι' H' J inv f rel' S hi D hD
    split at q
    · rename_i hl
      refine lc_of S rd hl rel' (rl.mono f) hi hD ?_
      cases el : lcGo chk p t e l (clrL vs σm) h1 with
      | ok l2 h2 =>
        simp only [el] at q
        intro ι2 H2 vs' f2 rel2 hD2 rv2
        exact fo ι' β H' h1 D ι2 H2 l2 vs' h2 Q _ rel' hD f2 rel2 hD2 (by simpa using rv2) (Post.fr f q)
      | ex a b => simp only [el] at q; exact q.elim
      | bad => simp only [el] at q; exact q
    · exact q.elim
  | ex x h1 => simp only [er, bindR] at q; exact q
  | bad => simp only [er, bindR] at q; exact q
@[simp] noncomputable def mYes : TM := fun _ h => .ok true h
theorem pts0 : PTs X [] (tT c W0 mYes) := ⟨fun pins s σ H Q I ⟨ι, β, mh, σm, rel, rl, p⟩ => pts_nil.run pins s σ H Q I (p ι H true .refl rel rfl)⟩
theorem pts1 {a : Expr} {t : TM} (h : PT X a (tT c W0 t)) : PTs X [a] (tT c W0 t) := pts_one h
theorem e_lc {elt tg iter : Expr} {ifs : List Expr} {scope : Scope} {own : List (Str × Nat)} {pos : Pos} {r : IM} {p : TP} {t : TM} {e : EM} {g : TG} (fin : List MV → MH → R MV) (fo : FinOk c fin) (hc : X.calm = true) (hN : X.N.Nodup) (hi : PI X tg iter (tI c W r)) (ok : BlkOk X.N X.env.scope scope own)
    (rd : RdOk c (own.map (·.2)) g p)
    (hg : ∀ (s : Shared) (H : Hp) (C : Addr) (cl : List (Str × Addr)) (fp : List Addr), PG (X.blk s H scope (compEnvC scope cl C X.env) fp) tg g) (ht : ∀ (s : Shared) (H : Hp) (C : Addr) (cl : List (Str × Addr)) (fp : List Addr), PTs (X.blk s H scope (compEnvC scope cl C X.env) fp) ifs (tT c W0 t))
    (he : ∀ (s : Shared) (H : Hp) (C : Addr) (cl : List (Str × Addr)) (fp : List Addr), PE (X.blk s H scope (compEnvC scope cl C X.env) fp) elt (tE c W0 e)) (hs : ∀ x, foldedSetIterable iter X.env x = pure x := by intro _; rfl) :
    PE X (.ListComp elt [⟨tg, iter, ifs, 0⟩] scope pos) (tE c W (mLc r p t e (own.map (·.2)) fin)) :=
  (pe_lc hc hN hi ok hg ht he hs).wk fun σ H Q h => mLc_of fo rd h
theorem tLc_mono {wi : TI} {g : TG} {tt : TT} {te : TE} {vs : List Nat} {σ : St} {H : Hp} {Q Q' : VK} (h : tLc wi g tt te vs σ H Q) (hw : ∀ σ H R R', (∀ J H', R J H' → R' J H') → wi σ H R → wi σ H R') (hq : ∀ v H', Q v H' → Q' v H') : tLc wi g tt te vs σ H Q' :=
  hw σ H _ _ (fun J H1 hh D hD => by
    obtain ⟨Wn, w0, ws⟩ := hh D hD
    exact ⟨Wn, w0, fun i m H hW => (ws i m H hW).imp (fun ⟨a, b⟩ => ⟨a, hq _ _ b⟩) id⟩) h
theorem tI_mono {r : IM} (σ : St) (H : Hp) (R R' : It → Hp → Prop) (q : ∀ J H', R J H' → R' J H') (h : tI c W r σ H R) : tI c W r σ H R' := by
  obtain ⟨ι, β, mh, σm, rel, rl, p⟩ := h
  refine ⟨ι, β, mh, σm, rel, rl, ?_⟩
  cases er : r σm mh with
  | ok lc h1 => rw [er] at p; exact fun ι' H' J inv f a b d => q _ _ (p ι' H' J inv f a b d)
  | ex x h1 => rw [er] at p; exact p
  | bad => rw [er] at p; exact p
theorem s_setLc {i : Nat} {y : Str} {py : Pos} {elt tg iter : Expr} {ifs : List Expr} {scope : Scope} {own : List (Str × Nat)} {pos spos : Pos} {r : IM} {p : TP} {t : TM} {e : EM} {g : TG} (fin : List MV → MH → R MV) (fo : FinOk c fin) (hc : X.calm = true) (hN : X.N.Nodup) (hy : X.N[i]? = some y) (hyl : X.env.scope.names.lookup y = some .local)
    (hsw : swapsWith (.ListComp elt [⟨tg, iter, ifs, 0⟩] scope pos) (some (.Name y py)) spos.line X.env = pure true) (hi : PI X tg iter (tI c W r)) (ok : BlkOk X.N X.env.scope scope own)
    (rd : RdOk c (own.map (·.2)) g p)
    (hg : ∀ (s : Shared) (H : Hp) (C : Addr) (cl : List (Str × Addr)) (fp : List Addr), PG (X.blk s H scope (compEnvC scope cl C X.env) fp) tg g) (ht : ∀ (s : Shared) (H : Hp) (C : Addr) (cl : List (Str × Addr)) (fp : List Addr), PTs (X.blk s H scope (compEnvC scope cl C X.env) fp) ifs (tT c W0 t))
    (he : ∀ (s : Shared) (H : Hp) (C : Addr) (cl : List (Str × Addr)) (fp : List Addr), PE (X.blk s H scope (compEnvC scope cl C X.env) fp) elt (tE c W0 e)) (hs : ∀ x, foldedSetIterable iter X.env x = pure x := by intro _; rfl) :
    PS X (.Assign [.Name y py] (.ListComp elt [⟨tg, iter, ifs, 0⟩] scope pos) spos) (tS c W (sSet i (mLc r p t e (own.map (·.2)) fin))) :=
  (ps_setLc hc hN hy hyl hsw hi ok hg ht he hs).wk fun D σ H ⟨ι, β, mh, σm, rel, rl, q⟩ => by
    have h1 : tE c W (mLc r p t e (own.map (·.2)) fin) σ H _ := run1S (Rp := RV c) rel rl q
    refine tLc_mono (mLc_of fo rd h1) tI_mono fun v H1 ⟨ι1, mh1, a, f1, rel1, rl1, ra1, p1⟩ => ?_
    exact p1 ι1 H1 _ .refl rel1 (rl1.set ra1)
end
end MP
namespace MP
open PySem PySem.Spec PyProof.Rows L2
section
variable {c : C} {X : Cx}
theorem rb {K : PySem.W.Frag} {ι β : List Addr} {H : Hp} {i : Bool} {v : V} (h : RepV K ι β H (.bl i) v) : v = .bl i := by unfold RepV at h; exact h
theorem rs {K : PySem.W.Frag} {ι β : List Addr} {H : Hp} {i : Str} {v : V} (h : RepV K ι β H (.str i) v) : v = .str i := by unfold RepV at h; exact h
theorem rn {K : PySem.W.Frag} {ι β : List Addr} {H : Hp} {v : V} (h : RepV K ι β H .non v) : v = .non := by unfold RepV at h; exact h
noncomputable def iop (f : Int → Int → MV) (ok : Int → Int → Bool) (a b : MV) (h : MH) : R MV := match a, b with
  | .int i, .int j => if ok i j = true then .ok (f i j) h else .bad
  | _, _ => .bad
theorem p2_iop {f : Int → Int → MV} {ok : Int → Int → Bool} {r : R2} {g : Int → Int → V} (hg : ∀ i j ι β H, RepV c.K ι β H (f i j) (g i j)) (hr : ∀ i j H Q, ok i j = true → Q (g i j) H → r (.int i) (.int j) H Q) : P2 c r (iop f ok) := fun ι β H mh a b x y Q W rel ra rb p => by
  cases a with
  | int i =>
    cases b with
    | int j =>
      unfold iop at p
      simp only at p
      split at p
      · rename_i ho
        rw [ri ra, ri rb]
        exact hr i j H Q ho (p ι H _ .refl rel (hg _ _ _ _ _))
      · exact p.elim
    | _ => exact p.elim
  | _ => cases b <;> exact p.elim
noncomputable def yes2 (_ _ : Int) : Bool := true
noncomputable def mSubI := iop (fun i j => .int (i - j)) yes2
noncomputable def mMulI := iop (fun i j => .int (i * j)) fun i j => (decide (-18446744073709551616 < i) && decide (i < 18446744073709551616)) || (decide (-18446744073709551616 < j) && decide (j < 18446744073709551616))
noncomputable def mDivI := iop (fun i j => .int (i / j)) fun i j => decide (0 < j) && decide (j < 1073741824)
noncomputable def mModI := iop (fun i j => .int (i % j)) fun i j => decide (0 < j)
noncomputable def mPowI := iop (fun i j => .int (i ^ j.toNat)) fun i j => decide (0 ≤ j) && decide (j ≤ 1000000) && decide (i.natAbs < 18446744073709551616)
noncomputable def mLt := iop (fun i j => .bl (decide (i < j))) yes2
noncomputable def mLe := iop (fun i j => .bl (decide (i ≤ j))) yes2
noncomputable def mGt := iop (fun i j => .bl (decide (j < i))) yes2
noncomputable def mGe := iop (fun i j => .bl (decide (j ≤ i))) yes2
theorem p_sub : P2 c (rI0 fun i j => .int (i - j)) mSubI := p2_iop (fun _ _ _ _ _ => rint _ _ _) fun i j H Q _ q => ⟨i, j, rfl, rfl, q⟩
theorem p_mul : P2 c (rI CMul fun i j => .int (i * j)) mMulI := p2_iop (fun _ _ _ _ _ => rint _ _ _) fun i j H Q ho q => by
  simp only [Bool.or_eq_true, Bool.and_eq_true, decide_eq_true_eq] at ho
  refine ⟨i, j, rfl, rfl, ?_, q⟩
  rcases ho with h | h
  · exact .inl ⟨by simpa using h.1, by simpa using h.2⟩
  · exact .inr ⟨by simpa using h.1, by simpa using h.2⟩
theorem p_div : P2 c (rI CDiv fun i j => .int (i / j)) mDivI := p2_iop (fun _ _ _ _ _ => rint _ _ _) fun i j H Q ho q => by
  simp only [Bool.and_eq_true, decide_eq_true_eq] at ho
  exact ⟨i, j, rfl, rfl, ⟨ho.1, ho.2⟩, q⟩
theorem p_mod : P2 c (rI (fun _ j => 0 < j) fun i j => .int (i % j)) mModI := p2_iop (fun _ _ _ _ _ => rint _ _ _) fun i j H Q ho q => ⟨i, j, rfl, rfl, by simpa using ho, q⟩
theorem p_pow : P2 c (rI CPow fun i j => .int (i ^ j.toNat)) mPowI := p2_iop (fun _ _ _ _ _ => rint _ _ _) fun i j H Q ho q => by
  simp only [Bool.and_eq_true, decide_eq_true_eq] at ho
  exact ⟨i, j, rfl, rfl, ⟨ho.1.1, ho.1.2, by simpa using ho.2⟩, q⟩
theorem p_lt : P2 c (rI0 fun i j => .bl (decide (i < j))) mLt := p2_iop (fun _ _ _ _ _ => rbl _ _ _) fun i j H Q _ q => ⟨i, j, rfl, rfl, q⟩
theorem p_le : P2 c (rI0 fun i j => .bl (decide (i ≤ j))) mLe := p2_iop (fun _ _ _ _ _ => rbl _ _ _) fun i j H Q _ q => ⟨i, j, rfl, rfl, q⟩
theorem p_gt : P2 c (rI0 fun i j => .bl (decide (j < i))) mGt := p2_iop (fun _ _ _ _ _ => rbl _ _ _) fun i j H Q _ q => ⟨i, j, rfl, rfl, q⟩
theorem p_ge : P2 c (rI0 fun i j => .bl (decide (j ≤ i))) mGe := p2_iop (fun _ _ _ _ _ => rbl _ _ _) fun i j H Q _ q => ⟨i, j, rfl, rfl, q⟩
noncomputable def mNeg (a : MV) (h : MH) : R MV := match a with
  | .int i => .ok (.int (-i)) h
  | _ => .bad
theorem p_neg : P1 c (rU fun i => .int (-i)) mNeg := fun ι β H mh a x Q W rel ra p => by
  cases a with
  | int i => exact ⟨i, ri ra, p ι H _ .refl rel (rint _ _ _)⟩
  | _ => exact p.elim
noncomputable def asL (v : MV) (h : MH) : Option (List MV) := match v with
  | .lv l => some l
  | .ref n => match h[n]? with
    | some (.lst l) => some l
    | _ => none
  | _ => none
theorem asL_rep {v : MV} {h : MH} {l : List MV} {ι β : List Addr} {H : Hp} {x : V} (e : asL v h = some l) (rel : Rel c ι β H h) (rv : RepV c.K ι β H v x) : ∃ a vs, x = .ref a ∧ H a = some (.lst vs) ∧ RepVs c.K ι β H l vs := by
  cases v with
  | lv l' =>
    unfold asL at e
    cases e
    unfold RepV at rv
    obtain ⟨a, vs, rfl, ⟨q, _⟩, r⟩ := rv
    exact ⟨a, vs, rfl, q, r⟩
  | ref n =>
    unfold RepV at rv
    obtain ⟨a, rfl, ea⟩ := rv
    obtain ⟨o, eo, ro⟩ := rel.at ea
    unfold asL at e
    simp only [eo] at e
    cases o with
    | lst l' =>
      cases e
      obtain ⟨vs, q, r⟩ := ro
      exact ⟨a, vs, rfl, q, r⟩
    | dct _ => cases e
    | fdc _ => cases e
    | odc _ _ _ _ => cases e
    | dtt _ => cases e
    | fdt _ => cases e
    | ins _ _ => cases e
  | _ => cases e
/-- a list that is new at p -/
noncomputable def FinN (c : C) (fin : List MV → MH → R MV) : Prop := ∀ ι β H mh l vs p Q W, Rel c ι β H mh → RepVs c.K ι β H l vs → H p = none → Post c ι β H (RV c) Q W (fin l mh) → Q (.ref p) (upd H p (.lst vs))
theorem finN_V : FinN c finV := fun ι β H mh l vs p Q W rel r hp q => q ι _ _ (Fr.lay rel hp) (rel.lay hp) (rep_lv rel hp r)
theorem finN_R : FinN c finR := fun ι β H mh l vs p Q W rel r hp q => q (ι ++ [p]) _ _ (Fr.new rel hp) (rel.new hp ⟨vs, upd_same, r.mono (Fr.new rel hp)⟩) (rep_ref rel)
noncomputable def mAdd (fin : List MV → MH → R MV) (a b : MV) (h : MH) : R MV := match a, b with
  | .int i, .int j => .ok (.int (i + j)) h
  | .str x, .str y => if x.length + y.length ≤ SZ then .ok (.str (x ++ y)) h else .bad
  | .tup l, .tup r => if l.length + r.length ≤ SZ then .ok (.tup (l ++ r)) h else .bad
  | a, b => match asL a h, asL b h with
    | some l, some r => if l.length + r.length ≤ SZ then fin (l ++ r) h else .bad
    | _, _ => .bad
noncomputable def rAdd4 (K : PySem.W.Frag) : R2 := fun x y H Q => (((∃ i j, x = .int i ∧ y = .int j ∧ Q (.int (i + j)) H) ∨ (∃ i j, x = .str i ∧ y = .str j ∧ i.length + j.length ≤ sizeLine ∧ Q (.str (i ++ j)) H)) ∨ rCatA K x y H Q) ∨ rCat x y H Q
theorem op_add4 : OpR X (binaryOp .Add) (rAdd4 X.K) := ((op_add.or op_add_str).or op_catA).or op_cat
theorem p_add {fin : List MV → MH → R MV} (hf : FinN c fin) : P2 c (rAdd4 c.K) (mAdd fin) := fun ι β H mh a b x y Q W rel ra rb p => by
  have lists : ∀ l r, asL a mh = some l → asL b mh = some r → l.length + r.length ≤ SZ → Post c ι β H (RV c) Q W (fin (l ++ r) mh) → rAdd4 c.K x y H Q := fun l r e1 e2 hl p => by
    obtain ⟨a1, v1, rfl, q1, r1⟩ := asL_rep e1 rel ra
    obtain ⟨a2, v2, rfl, q2, r2⟩ := asL_rep e2 rel rb
    exact .inr ⟨a1, a2, v1, v2, rfl, rfl, q1, q2, by rw [← r1.length, ← r2.length, sz_eq]; exact hl, fun z hz => hf _ _ _ _ _ _ _ _ _ rel (r1.append r2) hz p⟩
  unfold mAdd at p
  split at p
  · exact .inl (.inl (.inl ⟨_, _, ri ra, ri rb, p ι H _ .refl rel (rint _ _ _)⟩))
  · split at p
    · rename_i hl
      exact .inl (.inl (.inr ⟨_, _, rs ra, rs rb, by rw [sz_eq]; exact hl, p ι H _ .refl rel (rstr _ _ _)⟩))
    · exact p.elim
  · split at p
    · rename_i l r hl
      obtain ⟨a1, v1, rfl, q1, r1⟩ := ra.tup_iff
      obtain ⟨a2, v2, rfl, q2, r2⟩ := rb.tup_iff
      refine .inl (.inr ⟨a1, a2, v1, v2, rfl, rfl, q1, q2, by rw [← r1.length, ← r2.length, sz_eq]; exact hl, fun e => ?_, fun _ e => ?_, fun _ _ z hz => ?_⟩)
      · subst e
        have : l = [] := by have := r1.length; simpa using this
        subst this
        exact p ι H _ .refl rel rb
      · subst e
        have : r = [] := by have := r2.length; simpa using this
        subst this
        exact p ι H _ .refl rel (by rw [List.append_nil]; exact ra)
      · exact p ι _ _ (Fr.lay rel hz) (rel.lay hz) (rep_tup rel hz (r1.append r2))
    · exact p.elim
  · split at p
    · rename_i e1 e2
      split at p
      · exact lists _ _ e1 e2 (by assumption) p
      · exact p.elim
    · exact p.elim
noncomputable def asS (v : MV) (h : MH) : Option (List MV) := match v with
  | .lv l => some l
  | .fz l => some l
  | .tup l => some l
  | .ref n => match h[n]? with
    | some (.lst l) => some l
    | _ => none
  | _ => none
theorem asS_rep {v : MV} {h : MH} {l : List MV} {ι β : List Addr} {H : Hp} {x : V} (e : asS v h = some l) (rel : Rel c ι β H h) (rv : RepV c.K ι β H v x) : ∃ a vs, x = .ref a ∧ (SqL c.K H a vs ∨ SqT c.K H a vs) ∧ RepVs c.K ι β H l vs := by
  cases v with
  | lv l' =>
    obtain ⟨a, vs, e1, q, r⟩ := asL_rep (v := .lv l') (l := l) (by cases e; rfl) rel rv
    exact ⟨a, vs, e1, .inl (.inl (.inl q)), r⟩
  | tup l' =>
    cases e
    obtain ⟨a, vs, e1, q, r⟩ := rv.tup_iff
    exact ⟨a, vs, e1, .inr q, r⟩
  | fz l' =>
    cases e
    obtain ⟨a, vs, rfl, q, r⟩ := rv.fz_iff
    exact ⟨a, vs, rfl, .inl q, r⟩
  | ref n =>
    obtain ⟨a, vs, e1, q, r⟩ := asL_rep (v := .ref n) (l := l) (by unfold asS at e; unfold asL; exact e) rel rv
    exact ⟨a, vs, e1, .inl (.inl (.inl q)), r⟩
  | _ => cases e
noncomputable def mIx (a b : MV) (h : MH) : R MV := match b with
  | .int i => match asS a h with
    | some l => match atI l i with
      | some v => .ok v h
      | none => .bad
    | none => match a with
      | .str z => if z.length ≤ SZ then match atI z.cps.toList i with
        | some k => .ok (.str ⟨#[k]⟩) h
        | none => .bad
        else .bad
      | _ => .bad
  | _ => .bad
theorem atI_rep {K : PySem.W.Frag} {ι β : List Addr} {H : Hp} {l : List MV} {vs : List V} {i : Int} {m : MV} (r : RepVs K ι β H l vs) (e : atI l i = some m) : ∃ v, atI vs i = some v ∧ RepV K ι β H m v := by
  unfold atI at e ⊢
  rw [← r.length]
  cases ej : ixN l.length i with
  | none => rw [ej] at e; cases e
  | some j =>
    rw [ej] at e
    exact r.get e
theorem p_ix : P2 c (rIx c.K) mIx := fun ι β H mh a b x y Q W rel ra rb p => by
  cases b with
  | int i =>
    unfold mIx at p
    simp only at p
    cases es : asS a mh with
    | some l =>
      simp only [es] at p
      cases ea : atI l i with
      | none => simp only [ea] at p; exact p.elim
      | some v =>
        simp only [ea] at p
        obtain ⟨q, vs, rfl, sq, r⟩ := asS_rep es rel ra
        obtain ⟨u, eu, ru⟩ := atI_rep r ea
        have := p ι H u .refl rel ru
        rcases sq with sq | sq
        · exact .inl ⟨q, vs, i, u, rfl, ri rb, sq, eu, this⟩
        · exact .inr (.inl ⟨q, vs, i, u, rfl, ri rb, sq, eu, this⟩)
    | none =>
      simp only [es] at p
      cases a with
      | str z =>
        simp only at p
        split at p
        · rename_i hz
          cases ea : atI z.cps.toList i with
          | none => simp only [ea] at p; exact p.elim
          | some k =>
            simp only [ea] at p
            exact .inr (.inr ⟨z, i, k, rs ra, ri rb, by rw [sz_eq]; exact hz, ea, p ι H _ .refl rel (rstr _ _ _)⟩)
        · exact p.elim
      | _ => exact p.elim
  | _ => exact p.elim
noncomputable def cutM (l : List MV) (lo hi : Option Int) : List MV := (l.drop (HT.sIx l.length 0 lo)).take (HT.sIx l.length l.length hi - HT.sIx l.length 0 lo)
theorem cut_rep {K : PySem.W.Frag} {ι β : List Addr} {H : Hp} {l : List MV} {vs : List V} {lo hi : Option Int} (r : RepVs K ι β H l vs) : RepVs K ι β H (cutM l lo hi) (cutV vs lo hi) := by
  unfold cutM cutV
  rw [← r.length]
  exact (r.drop _).take _
abbrev OM := Lo → MH → R (Option Int)
noncomputable def tO (c : C) (W : WX) (r : OM) : St → Hp → (Option Int → Hp → Prop) → Prop := tR c W (fun _ _ _ a b => a = b) r
@[simp] noncomputable def oNone : OM := fun _ h => .ok none h
@[simp] noncomputable def oSome (r : EM) : OM := fun σ h => bindR (r σ h) fun v h1 => match v with
  | .int i => .ok (some i) h1
  | _ => .bad
variable {W : WX} {e lo hi : Expr} {re : EM}
theorem _root_.L2.PO.wk {o : Option Expr} {t t' : St → Hp → (Option Int → Hp → Prop) → Prop} (h : PO X o t) (w : ∀ σ H Q, t' σ H Q → t σ H Q) : PO X o t' := ⟨fun pins s σ H Q I q => h.run pins s σ H Q I (w σ H Q q)⟩
theorem o_none : PO X none (tO c W oNone) := po_none.wk fun σ H Q ⟨ι, β, mh, σm, rel, rl, p⟩ => p ι H none .refl rel rfl
theorem o_some (he : PE X e (tE c W re)) : PO X (some e) (tO c W (oSome re)) := (po_some he).wk fun σ H Q ⟨ι, β, mh, σm, rel, rl, p⟩ => by
  refine (run1 rel rl p).mono fun x H1 ⟨ι1, mh1, a, f1, rel1, rl1, ra1, p1⟩ => ?_
  cases a with
  | int i => exact ⟨i, ri ra1, p1 ι1 H1 _ .refl rel1 rfl⟩
  | _ => exact p1.elim
noncomputable def mSl (fin : List MV → MH → R MV) (a : MV) (lo hi : Option Int) (h : MH) : R MV := match a with
  | .tup l => .ok (.tup (cutM l lo hi)) h
  | a => match asL a h with
    | some l => fin (cutM l lo hi) h
    | none => .bad
@[simp] noncomputable def m3o (f : MV → Option Int → Option Int → MH → R MV) (ra : EM) (rl ru : OM) : EM := fun σ h => bindR (ra σ h) fun a h1 => bindR (rl σ h1) fun l h2 => bindR (ru σ h2) fun u h3 => f a l u h3
noncomputable def rSlLT (K : PySem.W.Frag) : V → Option Int → Option Int → Hp → VK → Prop := fun x lo hi H Q => rSlL K x lo hi H Q ∨ rSlA K x lo hi H Q
theorem sl_LT : SlR X (rSlLT X.K) := sl_list.or sl_tupA
theorem e_slice {rl ru : OM} {lo hi : Option Expr} {p2 pos : Pos} {fin : List MV → MH → R MV} (hf : FinN c fin) (hK : X.K = c.K) (he : PE X e (tE c W re)) (hl : PO X lo (tO c W rl)) (hu : PO X hi (tO c W ru)) : PE X (.Subscript e (.Slice lo hi none p2) pos) (tE c W (m3o (mSl fin) re rl ru)) :=
  (pe_slice sl_LT he hl hu).wk fun σ H Q ⟨ι, β, mh, σm, rel, rl, p⟩ => by
    refine (run1 rel rl p).mono fun x H1 ⟨ι1, mh1, a, f1, rel1, rl1, ra1, p1⟩ => ?_
    refine (run1 rel1 rl1 p1).mono fun l H2 ⟨ι2, mh2, l', f2, rel2, rl2, rl', p2⟩ => ?_
    refine (run1 rel2 rl2 p2).mono fun u H3 ⟨ι3, mh3, u', f3, rel3, rl3, ru', p3⟩ => ?_
    obtain rfl : l' = l := rl'
    obtain rfl : u' = u := ru'
    have rx := (ra1.mono f2).mono f3
    have key : Post c ι3 β H3 (RV c) Q (fun cls d H' => W cls d σ H') (match asL a mh3 with | some l => fin (cutM l l' u') mh3 | none => .bad) → rSlLT X.K x l' u' H3 Q := fun p3 => by
      cases es : asL a mh3 with
      | none => simp only [es] at p3; exact p3.elim
      | some l =>
        simp only [es] at p3
        obtain ⟨q, vs, rfl, sq, r⟩ := asL_rep es rel3 rx
        exact .inl ⟨q, vs, rfl, .inl (.inl sq), fun z hz => hf _ _ _ _ _ _ _ _ _ rel3 (cut_rep r) hz p3⟩
    cases a with
    | tup lt =>
      have p4 : Post c ι3 β H3 (RV c) Q (fun cls d H' => W cls d σ H') (.ok (.tup (cutM lt l' u')) mh3) := p3
      obtain ⟨q, vs, rfl, sq, r⟩ := rx.tup_iff
      refine .inr ⟨q, vs, rfl, by rw [hK]; exact sq, fun hw => ?_, fun _ z hz => p4 ι3 _ _ (Fr.lay rel3 hz) (rel3.lay hz) (rep_tup rel3 hz (cut_rep r))⟩
      have e : cutM lt l' u' = lt := by
        unfold cutM
        rw [r.length, hw.1, hw.2, ← r.length]
        simp
      rw [e] at p4
      exact p4 ι3 H3 _ .refl rel3 rx
    | _ => exact key p3
theorem e_builtin {id : String} {x : Str} {p pos : Pos} {es : List Expr} {r : List V → Hp → VK → Prop} {f : List MV → MH → R MV} {rs : AM} (hc : CallR X (.builtin id) r) (hp : PN c r f) (hg : Gl X x) (hm : X.mg x = none) (hv : bootBuiltins x = some (.builtin id)) (ha : PA X (e :: es) (tA c W rs)) (hn : x ≠ "__name__" := by decide) (hdb : (x == ("__debug__" : Str)) = false := by decide)
    (he : starEach (e :: es) X.env = (false, eval e X.env) :: starEach es X.env := by rfl) (hpl : (backTo pos (starEach es X.env)).any (·.1) = false := by rfl) : PE X (.Call (.Name x p) (e :: es) [] pos) (tE c W (mN f rs)) :=
  (pe_callB hc hg hm hv ha hn hdb he hpl).wk fun σ H Q h => mN_of hp h
theorem e_builtinTy {T : String} {x : Str} {p pos : Pos} {es : List Expr} {r : List V → Hp → VK → Prop} {f : List MV → MH → R MV} {rs : AM} (hc : CallR X (.type T) r) (hp : PN c r f) (hg : Gl X x) (hm : X.mg x = none) (hv : bootBuiltins x = some (.type T)) (ha : PA X (e :: es) (tA c W rs)) (hn : x ≠ "__name__" := by decide) (hdb : (x == ("__debug__" : Str)) = false := by decide)
    (he : starEach (e :: es) X.env = (false, eval e X.env) :: starEach es X.env := by rfl) (hpl : (backTo pos (starEach es X.env)).any (·.1) = false := by rfl) : PE X (.Call (.Name x p) (e :: es) [] pos) (tE c W (mN f rs)) :=
  (pe_callTy hc hg hm hv ha hn hdb he hpl).wk fun σ H Q h => mN_of hp h
@[simp] noncomputable def mMax (as : List MV) (h : MH) : R MV := match as with
  | [.int i, .int j] => .ok (.int (if j > i then j else i)) h
  | _ => .bad
@[simp] noncomputable def mMin (as : List MV) (h : MH) : R MV := match as with
  | [.int i, .int j] => .ok (.int (if j < i then j else i)) h
  | _ => .bad
theorem p_max : PN c (fun xs H Q => ∃ i j, xs = [.int i, .int j] ∧ Q (.int (if j > i then j else i)) H) mMax := fun ι β H mh as xs Q W rel ra p => by
  unfold mMax at p
  split at p
  · obtain ⟨v, v', rfl, q, q'⟩ := Vs2 ra
    rw [ri q, ri q']
    exact ⟨_, _, rfl, p ι H _ .refl rel (rint _ _ _)⟩
  · exact p.elim
theorem p_min : PN c (fun xs H Q => ∃ i j, xs = [.int i, .int j] ∧ Q (.int (if j < i then j else i)) H) mMin := fun ι β H mh as xs Q W rel ra p => by
  unfold mMin at p
  split at p
  · obtain ⟨v, v', rfl, q, q'⟩ := Vs2 ra
    rw [ri q, ri q']
    exact ⟨_, _, rfl, p ι H _ .refl rel (rint _ _ _)⟩
  · exact p.elim
noncomputable def mInt (as : List MV) (h : MH) : R MV := match as with
  | [.int i] => .ok (.int i) h
  | [.bl k] => .ok (.int (if k then 1 else 0)) h
  | _ => .bad
theorem p_int : PN c (fun xs H Q => (∃ i, xs = [.int i] ∧ Q (.int i) H) ∨ ∃ k, xs = [.bl k] ∧ Q (.int (if k then 1 else 0)) H) mInt := fun ι β H mh as xs Q W rel ra p => by
  unfold mInt at p
  split at p
  · obtain ⟨v, rfl, q⟩ := Vs1 ra
    rw [ri q]
    exact .inl ⟨_, rfl, p ι H _ .refl rel (rint _ _ _)⟩
  · obtain ⟨v, rfl, q⟩ := Vs1 ra
    rw [rb q]
    exact .inr ⟨_, rfl, p ι H _ .refl rel (rint _ _ _)⟩
  · exact p.elim
noncomputable def mLen (as : List MV) (h : MH) : R MV := match as with
  | [a] => match asS a h with
    | some l => .ok (.int l.length) h
    | none => match a with
      | .str z => if z.length ≤ SZ then .ok (.int z.length) h else .bad
      | _ => .bad
  | _ => .bad
theorem p_len : PN c (fun xs H Q => ∃ x n, xs = [x] ∧ LenV c.K x H n ∧ Q (.int n) H) mLen := fun ι β H mh as xs Q W rel ra p => by
  unfold mLen at p
  split at p
  · rename_i a
    obtain ⟨v, rfl, q⟩ := Vs1 ra
    cases es : asS a mh with
    | some l =>
      simp only [es] at p
      obtain ⟨b, vs, rfl, sq, r⟩ := asS_rep es rel q
      refine ⟨.ref b, l.length, rfl, ?_, p ι H _ .refl rel (rint _ _ _)⟩
      rcases sq with sq | sq
      · exact .inl ⟨vs, sq, r.length⟩
      · exact .inr ⟨vs, sq, r.length⟩
    | none =>
      simp only [es] at p
      split at p
      · split at p
        · rename_i z hz
          rw [rs q]
          exact ⟨.str z, z.length, rfl, ⟨by rw [sz_eq]; exact hz, rfl⟩, p ι H _ .refl rel (rint _ _ _)⟩
        · exact p.elim
      · exact p.elim
  · exact p.elim
noncomputable def toD (h : MH) : Nat → MV → Option PyData
  | 0, _ => none
  | f + 1, m => match m with
    | .non => some .none
    | .bl b => some (.bool b)
    | .int i => some (.int i)
    | .str x => some (.str x)
    | .tup l => (mapO (toD h f) l).map .tuple
    | .lv l => (mapO (toD h f) l).map .list
    | .fz l => (mapO (toD h f) l).map .list
    | .dv _ _ => none
    | .exv _ _ _ => none
    | .ov _ _ _ _ => none
    | .ref n => match h[n]? with
      | some (.lst l) => (mapO (toD h f) l).map .list
      | _ => none
theorem mapO_dp {ι β : List Addr} {H : Hp} {f : MV → Option PyData} (hf : ∀ m d v, f m = some d → RepV c.K ι β H m v → Dp c.K H v d) : ∀ {l : List MV} {ds : List PyData} {vs : List V}, mapO f l = some ds → RepVs c.K ι β H l vs → DpAll c.K H vs ds
  | [], _, _, e, h => by
    simp only [mapO, Option.some.injEq] at e
    subst e
    rw [h.nil_iff]; exact .nil
  | a :: l, _, _, e, h => by
    obtain ⟨v, r, rfl, q, t⟩ := h.cons_iff
    unfold mapO at e
    cases e1 : f a with
    | none => simp [e1] at e
    | some b =>
      cases e2 : mapO f l with
      | none => simp [e1, e2] at e
      | some r' =>
        simp only [e1, e2, Option.some.injEq] at e
        subst e
        exact .cons (hf _ _ _ e1 q) (mapO_dp hf e2 t)
theorem toD_dp {ι β : List Addr} {H : Hp} {mh : MH} (rel : Rel c ι β H mh) : ∀ (f : Nat) (m : MV) (d : PyData) (v : V), toD mh f m = some d → RepV c.K ι β H m v → Dp c.K H v d
  | 0, m, d, v, e, h => by unfold toD at e; cases e
  | f + 1, m, d, v, e, h => by
    unfold toD at e
    cases m with
    | non => cases e; rw [rn h]; exact .non
    | bl b => cases e; rw [rb h]; exact .bl b
    | int i => cases e; rw [ri h]; exact .int i
    | str x => cases e; rw [rs h]; exact .str x
    | dv _ _ => cases e
    | exv _ _ _ => cases e
    | ov _ _ _ _ => cases e
    | tup l =>
      simp only [Option.map_eq_some_iff] at e
      obtain ⟨ds, e, rfl⟩ := e
      obtain ⟨a, vs, rfl, sq, r⟩ := h.tup_iff
      exact .tup sq (mapO_dp (toD_dp rel f) e r)
    | lv l =>
      simp only [Option.map_eq_some_iff] at e
      obtain ⟨ds, e, rfl⟩ := e
      obtain ⟨a, vs, rfl, sq, r⟩ := asL_rep (l := l) rfl rel h
      exact .lst (.inl (.inl sq)) (mapO_dp (toD_dp rel f) e r)
    | fz l =>
      simp only [Option.map_eq_some_iff] at e
      obtain ⟨ds, e, rfl⟩ := e
      obtain ⟨a, vs, rfl, q, r⟩ := h.fz_iff
      exact .lst q (mapO_dp (toD_dp rel f) e r)
    | ref n =>
      simp only at e
      cases eo : mh[n]? with
      | none => simp only [eo] at e; cases e
      | some o =>
        simp only [eo] at e
        cases o with
        | lst l =>
          simp only [Option.map_eq_some_iff] at e
          obtain ⟨ds, e, rfl⟩ := e
          obtain ⟨a, vs, rfl, sq, r⟩ := asL_rep (v := .ref n) (l := l) (by unfold asL; simp only [eo]) rel h
          exact .lst (.inl (.inl sq)) (mapO_dp (toD_dp rel f) e r)
        | dct _ => cases e
        | fdc _ => cases e
        | odc _ _ _ _ => cases e
        | dtt _ => cases e
        | fdt _ => cases e
        | ins _ _ => cases e
noncomputable def eqMV (neg : Bool) (a b : MV) (h : MH) : R MV := match toD h 12 a, toD h 12 b with
  | some d, some e => if (SeqAt.shaped d && SeqAt.shaped e) = true then .ok (.bl (if neg then !PyData.eqv d e else PyData.eqv d e)) h else .bad
  | _, _ => .bad
noncomputable def mEq := eqMV false
noncomputable def mNe := eqMV true
theorem p_eq : P2 c (rEqD c.K) mEq := fun ι β H mh a b x y Q W rel ra rb p => by
  unfold mEq eqMV at p
  split at p
  · rename_i d e h1 h2
    split at p
    · rename_i hs
      rw [Bool.and_eq_true] at hs
      exact ⟨d, e, toD_dp rel _ _ _ _ h1 ra, toD_dp rel _ _ _ _ h2 rb, hs.1, hs.2, p ι H _ .refl rel (rbl _ _ _)⟩
    · exact p.elim
  · exact p.elim
theorem p_ne : P2 c (rNeD c.K) mNe := fun ι β H mh a b x y Q W rel ra rb p => by
  unfold mNe eqMV at p
  split at p
  · rename_i d e h1 h2
    split at p
    · rename_i hs
      rw [Bool.and_eq_true] at hs
      exact ⟨d, e, toD_dp rel _ _ _ _ h1 ra, toD_dp rel _ _ _ _ h2 rb, hs.1, hs.2, p ι H _ .refl rel (rbl _ _ _)⟩
    · exact p.elim
  · exact p.elim
noncomputable def mIsN (neg : Bool) (a b : MV) (h : MH) : R MV := match b with
  | .non => match a with
    | .non => .ok (.bl (!neg)) h
    | _ => .ok (.bl neg) h
  | .bl k => match a with
    | .bl j => .ok (.bl (if neg then !decide (j = k) else decide (j = k))) h
    | _ => .bad
  | _ => .bad
noncomputable def mIs := mIsN false
noncomputable def mIsNot := mIsN true
noncomputable def rIsA : R2 := fun x y H Q => (y = .non ∧ Q (.bl (decide (x = .non))) H) ∨ (∃ a b, x = .bl a ∧ y = .bl b ∧ Q (.bl (decide (a = b))) H)
noncomputable def rIsNotA : R2 := fun x y H Q => (y = .non ∧ Q (.bl (!decide (x = .non))) H) ∨ (∃ a b, x = .bl a ∧ y = .bl b ∧ Q (.bl (!decide (a = b))) H)
theorem op_isA : OpR X (compareOp .Is) rIsA := op_isN.or op_is_bl
theorem op_isNotA : OpR X (compareOp .IsNot) rIsNotA := op_notN.or op_isnot_bl
theorem rep_non_iff {ι β : List Addr} {H : Hp} {a : MV} {x : V} (h : RepV c.K ι β H a x) : (x = .non) ↔ a = .non := by
  cases a with
  | non => rw [rn h]; simp
  | bl b => rw [rb h]; simp
  | int b => rw [ri h]; simp
  | str b => rw [rs h]; simp
  | tup l => unfold RepV at h; obtain ⟨a, vs, rfl, _⟩ := h; simp
  | lv l => unfold RepV at h; obtain ⟨a, vs, rfl, _⟩ := h; simp
  | fz l => unfold RepV at h; obtain ⟨a, vs, rfl, _⟩ := h; simp
  | dv l r => unfold RepV at h; obtain ⟨a, vs, rfl, _⟩ := h; simp
  | ref n => unfold RepV at h; obtain ⟨a, rfl, _⟩ := h; simp
  | exv _ _ _ => unfold RepV at h; obtain ⟨_, _, a, rfl⟩ := h; simp
  | ov _ _ _ _ => unfold RepV at h; obtain ⟨a, _, _, _, _, _, _, rfl, _⟩ := h; simp
theorem p_is : P2 c rIsA mIs := fun ι β H mh a b x y Q W rel ra rb' p => by
  cases b with
  | non =>
    refine .inl ⟨rn rb', ?_⟩
    cases a with
    | non => rw [rn ra]; exact p ι H _ .refl rel (rbl _ _ _)
    | _ => rw [decide_eq_false (fun z => by have := (rep_non_iff ra).mp z; cases this)]; exact p ι H _ .refl rel (rbl _ _ _)
  | bl k =>
    cases a with
    | bl j => exact .inr ⟨j, k, rb ra, rb rb', p ι H _ .refl rel (rbl _ _ _)⟩
    | _ => exact p.elim
  | _ => exact p.elim
theorem p_isnot : P2 c rIsNotA mIsNot := fun ι β H mh a b x y Q W rel ra rb' p => by
  cases b with
  | non =>
    refine .inl ⟨rn rb', ?_⟩
    cases a with
    | non => rw [rn ra]; exact p ι H _ .refl rel (rbl _ _ _)
    | _ => rw [decide_eq_false (fun z => by have := (rep_non_iff ra).mp z; cases this)]; exact p ι H _ .refl rel (rbl _ _ _)
  | bl k =>
    cases a with
    | bl j => exact .inr ⟨j, k, rb ra, rb rb', p ι H _ .refl rel (rbl _ _ _)⟩
    | _ => exact p.elim
  | _ => exact p.elim
end
end MP
namespace MP
open PySem PySem.Spec PyProof.Rows L2
inductive TyN where
  | non | bl | int | str | tup | lst | dct
  deriving DecidableEq
noncomputable def TyN.name : TyN → String
  | .non => "NoneType"
  | .bl => "bool"
  | .int => "int"
  | .str => "str"
  | .tup => "tuple"
  | .lst => "list"
  | .dct => "dict"
noncomputable def subN (a b : TyN) : Bool := match a, b with
  | .non, .non => true
  | .bl, .bl => true
  | .bl, .int => true
  | .int, .int => true
  | .str, .str => true
  | .tup, .tup => true
  | .lst, .lst => true
  | .dct, .dct => true
  | _, _ => false
theorem kit_tab : ∀ a b : TyN, kitB a.name b.name = some (subN a b) := by
  intro a b
  cases a <;> cases b <;> decide +kernel
noncomputable def tyN (v : MV) (h : MH) : Option TyN := match v with
  | .non => some .non
  | .bl _ => some .bl
  | .int _ => some .int
  | .str _ => some .str
  | .tup _ => some .tup
  | .lv _ => some .lst
  | .fz _ => some .lst
  | .dv _ _ => some .dct
  | .exv _ _ _ => none
  | .ov _ _ _ _ => none
  | .ref n => match h[n]? with
    | some (.lst _) => some .lst
    | some (.dct _) => some .dct
    | some (.fdc _) => some .dct
    | _ => none
section
variable {c : C} {X : Cx} {W : WX}
theorem tyN_rep {v : MV} {h : MH} {t : TyN} {ι β : List Addr} {H : Hp} {x : V} (e : tyN v h = some t) (rel : Rel c ι β H h) (rv : RepV c.K ι β H v x) : TyX c.K H x (.type t.name) := by
  cases v with
  | non => cases e; rw [rn rv]; exact .base .non
  | bl b => cases e; rw [rb rv]; exact .base (.bl _)
  | int i => cases e; rw [ri rv]; exact .base (.int _)
  | str z => cases e; rw [rs rv]; exact .base (.str _)
  | tup l =>
    cases e
    unfold RepV at rv
    obtain ⟨a, vs, rfl, q, r⟩ := rv
    rcases q with ⟨q, _⟩ | ⟨⟨o, its, n, hk, hc, hd, hz, hv⟩, _⟩
    · exact .base (.tup q)
    · exact .kTuple hk hc
  | lv l =>
    cases e
    unfold RepV at rv
    obtain ⟨a, vs, rfl, ⟨q, _⟩, r⟩ := rv
    exact .base (.lst q)
  | fz l =>
    cases e
    unfold RepV at rv
    obtain ⟨a, vs, rfl, q, r⟩ := rv
    rcases q with ⟨⟨o, q⟩, _⟩ | ⟨o, its, n, hk, hc, hd, hz, hv⟩
    · exact .base (.frz q)
    · exact .kList hk hc
  | dv l r =>
    cases e
    unfold RepV at rv
    obtain ⟨a, vs, rfl, ⟨⟨o, q, iv⟩, _⟩, r⟩ := rv
    rcases iv with rfl | ⟨od, rfl⟩
    · exact .base (.dK q)
    · exact .fDict q
  | ref n =>
    unfold RepV at rv
    obtain ⟨a, rfl, ea⟩ := rv
    obtain ⟨o, eo, ro⟩ := rel.at ea
    unfold tyN at e
    simp only [eo] at e
    cases o with
    | lst l => cases e; obtain ⟨vs, q, _⟩ := ro; exact .base (.lst q)
    | dct l => cases e; obtain ⟨vs, q, _⟩ := ro; exact .base (.dK q)
    | fdc l => cases e; obtain ⟨od, vs, q, _⟩ := ro; exact .fDict q
    | odc _ _ _ _ => cases e
    | dtt _ => cases e
    | fdt _ => cases e
    | ins _ _ => cases e
  | exv _ _ _ => cases e
  | ov _ _ _ _ => cases e
noncomputable def isT (T : TyN) (a : MV) (h : MH) : R MV := match tyN a h with
  | some t => .ok (.bl (subN t T)) h
  | none => .bad
theorem e_isi (T : TyN) {a : Expr} {ra : EM} {tn : Str} {p p2 pos : Pos} (hK : X.K = c.K) (hg : Gl X "isinstance") (hm : X.mg "isinstance" = none) (hgt : Gl X tn) (hmt : X.mg tn = none) (hv : bootBuiltins tn = some (.type T.name)) (hb : bootBuiltins "isinstance" = some (.builtin "isinstance")) (ha : PE X a (tE c W ra))
    (hn : tn ≠ "__name__" := by decide) (hd : (tn == ("__debug__" : Str)) = false := by decide)
    (he : starEach [a, .Name tn p2] X.env = (false, eval a X.env) :: starEach [.Name tn p2] X.env := by rfl) (he2 : starEach [.Name tn p2] X.env = (false, eval (.Name tn p2) X.env) :: starEach [] X.env := by rfl) (hpl : (backTo pos (starEach [.Name tn p2] X.env)).any (·.1) = false := by rfl) :
    PE X (.Call (.Name "isinstance" p) [a, .Name tn p2] [] pos) (tE c W (m1 (isT T) ra)) :=
  (pe_callB call_isi hg hm hb (pa_cons ha (pa_cons (pe_bltn (v := .ty T.name) (u := .type T.name) hgt hmt hv rfl hn hd) pa_nil he2) he) (by decide) (by decide) he hpl).wk fun σ H Q ⟨ι, β, mh, σm, rel, rl, p⟩ => by
    refine (run1 rel rl p).mono fun x H1 ⟨ι1, mh1, v, f1, rel1, rl1, rv, p1⟩ => ?_
    unfold isT at p1
    cases et : tyN v mh1 with
    | none => simp only [et] at p1; exact p1.elim
    | some t =>
      simp only [et] at p1
      exact ⟨x, .ty T.name, .type t.name, .type T.name, subN t T, rfl, .ty _, by rw [hK]; exact tyN_rep et rel1 rv, kit_ty (kit_tab t T), p1 ι1 H1 _ .refl rel1 (rbl _ _ _)⟩
variable {a b e : Expr} {ra rb re : EM} {fin : List MV → MH → R MV} {pos p p2 pos2 : Pos}
noncomputable def ints? : List MV → Option (List Int)
  | [] => some []
  | .int i :: r => match ints? r with
    | some l => some (i :: l)
    | none => none
  | _ :: _ => none
@[simp] theorem ints?_map (ns : List Int) : ints? (ns.map MV.int) = some ns := by
  induction ns with
  | nil => rfl
  | cons n ns ih => simp [ints?, ih]
noncomputable def setH (h : MH) (n : Nat) (o : MO) : MH := h.set n o
noncomputable def mMeth (f : MV → List MV → MH → R MV) (ro : EM) (rs : AM) : EM := fun σ h => bindR (ro σ h) fun a h1 => match asL a h1 with
  | some _ => bindR (rs σ h1) fun as h2 => f a as h2
  | none => .bad
noncomputable def PMt (c : C) (r : V → List V → Hp → VK → Prop) (f : MV → List MV → MH → R MV) : Prop := ∀ ι β H mh a as x xs Q W, Rel c ι β H mh → RepV c.K ι β H a x → RepVs c.K ι β H as xs → Post c ι β H (RV c) Q W (f a as mh) → r x xs H Q
theorem e_methL {id name : String} {r : V → List V → Hp → VK → Prop} {f : MV → List MV → MH → R MV} {o : Expr} {ro : EM} {es : List Expr} {rs : AM} {apos cpos : Pos} (hK : X.K = c.K) (slot : Slot "list" name id) (hty : typeOf (.builtin id) = pure (.type "method_descriptor")) (hm : MtR X id r) (hp : PMt c r f) (ho : PE X o (tE c W ro)) (ha : PA X (e :: es) (tA c W rs))
    (hbase : attributeBase o name X.env (eval o X.env) = eval o X.env := by rfl)
    (hfew : ((backTo cpos (starEach (e :: es) X.env)).all (fun x => !x.1) && (backToKw cpos (keywordEach [] X.env)).all (fun x => x.1.isSome)
      && decide ((e :: es).length + ([] : List Keyword).length + (if ([] : List Keyword).isEmpty then 0 else 1) < 30)) = true := by rfl)
    (hline : (apos.endLine == cpos.line) = true := by rfl) (hs : starEach (e :: es) X.env = (false, eval e X.env) :: starEach es X.env := by rfl) (hplain : (backTo cpos (starEach es X.env)).any (·.1) = false := by rfl) :
    PE X (.Call (.Attribute o name apos) (e :: es) [] cpos) (tE c W (mMeth f ro rs)) :=
  (pe_bm PySem.F.plainAttrs_list slot hty hm ho ha hbase hfew hline hs hplain).wk fun σ H Q ⟨ι, β, mh, σm, rel, rl, p⟩ => by
    refine (run1 rel rl p).mono fun x H1 ⟨ι1, mh1, v, f1, rel1, rl1, rv, p1⟩ => ?_
    cases el : asL v mh1 with
    | none => simp only [el] at p1; exact p1.elim
    | some l =>
      simp only [el] at p1
      obtain ⟨b, vs, rfl, sq, r⟩ := asL_rep el rel1 rv
      refine ⟨.inl ⟨rfl, vs, .inl (.inl sq)⟩, ?_⟩
      exact (run1 rel1 rl1 p1).mono fun xs H2 ⟨ι2, mh2, as, f2, rel2, rl2, ra, p2⟩ => hp _ _ _ _ _ _ _ _ _ _ rel2 (rv.mono f2) ra p2
noncomputable def mAppend (a : MV) (as : List MV) (h : MH) : R MV := match a, as with
  | .ref n, [y] => match h[n]? with
    | some (.lst l) => if l.length < SZ then .ok .non (setH h n (.lst (l ++ [y]))) else .bad
    | _ => .bad
  | _, _ => .bad
theorem p_append : PMt c rAppend mAppend := fun ι β H mh a as x xs Q W rel ra ras p => by
  unfold mAppend at p
  split at p
  · rename_i n y
    cases eo : mh[n]? with
    | none => simp only [eo] at p; exact p.elim
    | some o =>
      simp only [eo] at p
      cases o with
      | lst l =>
        simp only at p
        split at p
        · rename_i hl
          unfold RepV at ra
          obtain ⟨b, rfl, ea⟩ := ra
          obtain ⟨o2, e2, ro⟩ := rel.at ea
          rw [eo] at e2; cases e2
          obtain ⟨vs, hv, r⟩ := ro
          obtain ⟨w, rfl, qw⟩ := Vs1 ras
          refine ⟨b, vs, w, rfl, rfl, hv, by rw [← r.length, sz_eq]; exact hl, ?_⟩
          have nf : ∀ o u, H b ≠ some (.frz o u) := fun o u z => by rw [hv] at z; cases z
          have f := Fr.put (o := .lst (vs ++ [w])) ea nf
          exact p ι _ _ f (rel.put ea nf ⟨_, upd_same, (r.append (.cons qw .nil)).mono f⟩) (rnon _ _ _)
        · exact p.elim
      | dct _ => exact p.elim
      | fdc _ => exact p.elim
      | odc _ _ _ _ => exact p.elim
      | dtt _ => exact p.elim
      | fdt _ => exact p.elim
      | ins _ _ => exact p.elim
  · exact p.elim
noncomputable def sSetIx (rv ro ri : EM) : SM := fun σ h => bindS (rv σ h) σ fun v h1 => bindS (ro σ h1) σ fun o h2 => bindS (ri σ h2) σ fun i h3 => match o, i with
  | .ref n, .int k => match h3[n]? with
    | some (.lst l) => match ixN l.length k with
      | some j => .nx σ (setH h3 n (.lst (l.set j v)))
      | none => .bad
    | _ => .bad
  | _, _ => .bad
theorem s_setL {o i : Expr} {rv ro ri : EM} (he : PE X e (tE c W rv)) (ho : PE X o (tE c W ro)) (hi : PE X i (tE c W ri))
    (ha : ∀ v, assign (.Subscript o i p) X.env v = (do
      let ov ← holding [v] (eval o X.env)
      let iv ← holding [v, ov] (eval i X.env)
      standAt p
      holding [v, ov, iv] (setItem ov iv v)
      release [v, ov, iv] []) := by intro _; rfl)
    (hs : swapsWithSole [.Subscript o i p] e pos.line X.env = pure false := by rfl) (hw : swappedStores [.Subscript o i p] e X.env = pure none := by rfl)
    (h1 : (assignEach [.Subscript o i p] X.env).map (·.2) = [assign (.Subscript o i p) X.env] := by rfl) : PS X (.Assign [.Subscript o i p] e pos) (tS c W (sSetIx rv ro ri)) :=
  (ps_asg he (pg_sub ho hi set_list ha) hs hw h1).wk fun D σ H ⟨ι, β, mh, σm, rel, rl, q⟩ => by
    refine (run1S rel rl q).mono fun v H1 ⟨ι1, mh1, m, f1, rel1, rl1, rm, p1⟩ => ?_
    refine (run1S rel1 rl1 p1).mono fun x H2 ⟨ι2, mh2, mo, f2, rel2, rl2, rmo, p2⟩ => ?_
    refine (run1S rel2 rl2 p2).mono fun y H3 ⟨ι3, mh3, mi, f3, rel3, rl3, rmi, p3⟩ => ?_
    cases mo with
    | ref n =>
      cases mi with
      | int k =>
        simp only at p3
        cases eo : mh3[n]? with
        | none => simp only [eo] at p3; exact p3.elim
        | some ob =>
          simp only [eo] at p3
          cases ob with
          | lst l =>
            simp only at p3
            cases ej : ixN l.length k with
            | none => simp only [ej] at p3; exact p3.elim
            | some j =>
              simp only [ej] at p3
              have rmo' := rmo.mono f3
              unfold RepV at rmo'
              obtain ⟨b, rfl, ea⟩ := rmo'
              obtain ⟨o2, e2, ro⟩ := rel3.at ea
              rw [eo] at e2; cases e2
              obtain ⟨vs, hv, r⟩ := ro
              refine ⟨b, vs, k, j, rfl, MP.ri rmi, hv, by rw [← r.length]; exact ej, ?_⟩
              have nf : ∀ o u, H3 b ≠ some (.frz o u) := fun o u z => by rw [hv] at z; cases z
              have f := Fr.put (o := .lst (vs.set j v)) ea nf
              exact p3 ι3 _ _ f (rel3.put ea nf ⟨_, upd_same, (RepVs.set ((rm.mono f2).mono f3) j r).mono f⟩) (rl3.mono f)
          | dct _ => exact p3.elim
          | fdc _ => exact p3.elim
          | odc _ _ _ _ => exact p3.elim
          | dtt _ => exact p3.elim
          | fdt _ => exact p3.elim
          | ins _ _ => exact p3.elim
      | _ => exact p3.elim
    | _ => cases mi <;> exact p3.elim
end
end MP
namespace MP
open PySem PySem.Spec PyProof.Rows L2
section
variable {c : C} {X : Cx} {W : WX} {a : Expr} {ra : EM}
@[simp] noncomputable def isTru (v : MV) (h : MH) : R Bool := match v with
  | .bl b => .ok b h
  | .int i => .ok (i != 0) h
  | .non => .ok false h
  | _ => .bad
@[simp] noncomputable def mTru (r : EM) : TM := fun σ h => bindR (r σ h) isTru
theorem t_tru (ha : PE X a (tE c W ra)) (he : ∀ whole, isTrue a X.env whole = (do let v ← whole; standAt a.pos; holding [v] (truthy v)) := by intro _; rfl) : PT X a (tT c W (mTru ra)) :=
  (pt_truth ha he).wk fun σ H Q ⟨ι, β, mh, σm, rel, rl, p⟩ => by
    refine (run1 rel rl p).mono fun x H1 ⟨ι1, mh1, v, f1, rel1, rl1, rv, p1⟩ => ?_
    cases v with
    | bl b => exact ⟨b, by rw [rb rv]; rfl, p1 ι1 H1 b .refl rel1 rfl⟩
    | int i => exact ⟨_, by rw [ri rv]; rfl, p1 ι1 H1 _ .refl rel1 rfl⟩
    | non => exact ⟨_, by rw [rn rv]; rfl, p1 ι1 H1 _ .refl rel1 rfl⟩
    | _ => exact p1.elim
end
/-- the law's promise -/
noncomputable def spLaw (K : PySem.W.Frag) : Sp := fun vs H Q _ => ∃ (a : Addr) (ns : List Int), vs = [.ref a] ∧ ns.length ≤ 63 ∧ Only H ∧ SqL K H a (ns.map V.int) ∧ ∀ H', Q (.bl true) H'
/-- from the mirror to the law's promise -/
theorem law_end {P : Program} {w : World} {mg : Str → Option Value} {base : Heap} {CX : CXT} {k : Nat} {f : Addr} {fd : FuncData} {ps : List Str} {c : C} {m : List MV → MH → R MV} (F : FnG P w c.K mg base CX k f fd ps (spM c 1 m)) (h : ∀ ns : List Int, ns.length ≤ 63 → ∃ h', m [.fz (ns.map .int)] [] = .ok (.bl true) h') : FnG P w c.K mg base CX k f fd ps (spLaw c.K) := by
  refine F.weak fun vs H Q E hs => ?_
  obtain ⟨a, ns, rfl, hl, hO, hS, q⟩ := hs
  obtain ⟨h', e⟩ := h ns hl
  refine ⟨rfl, [], [], [], [.fz (ns.map .int)], ⟨rfl, .nil, fun b z => (by simp at z), fun n o z => (by simp at z)⟩, .cons ?_ .nil, ?_⟩
  · unfold RepV
    refine ⟨a, _, rfl, ?_, .ints⟩
    rcases hS with (hS | ⟨o, hS⟩) | hS
    · rcases hO a with z | ⟨o, xs, z⟩
      · rw [z] at hS; cases hS
      · rw [z] at hS; cases hS
    · exact .inl ⟨⟨o, hS⟩, by simp, by simp⟩
    · exact .inr hS
  · rw [e]
    intro ι' H' u f r rv
    rw [rb rv]
    exact q H'
end MP
namespace MP
open PySem PySem.Spec PyProof.Rows L2
noncomputable def lookKV : List (MV × MV) → MV → Option MV
  | [], _ => none
  | (k, m) :: r, y => if beqV k y = true then some m else lookKV r y
noncomputable def putKV : List (MV × MV) → MV → MV → List (MV × MV)
  | [], y, v => [(y, v)]
  | (k, m) :: r, y, v => if beqV k y = true then (k, v) :: r else (k, m) :: putKV r y v
noncomputable def dropKV : List (MV × MV) → MV → List (MV × MV)
  | [], _ => []
  | (k, m) :: r, y => if beqV k y = true then r else (k, m) :: dropKV r y
theorem mkey_beq {k y : MV} {a b : Key} (h1 : mkey k = some a) (h2 : mkey y = some b) : beqV k y = decide (a = b) := by
  cases k <;> cases y <;> simp only [mkey, Option.some.injEq] at h1 h2 <;> try cases h1
  all_goals try cases h2
  all_goals simp [beqV]
section
variable {c : C} {X : Cx} {W : WX}
theorem look_rep {ι β : List Addr} {H : Hp} {y : MV} {b : Key} (hy : mkey y = some b) : ∀ {kvs : List (MV × MV)} {l : List (Key × V)}, RepKV c.K ι β H kvs l →
    (∀ m, lookKV kvs y = some m → ∃ v, valV l b = some v ∧ RepV c.K ι β H m v) ∧ (lookKV kvs y = none → valV l b = none)
  | [], l, h => by
    have e : l = [] := h
    subst e
    exact ⟨fun m e => (by cases e), fun _ => rfl⟩
  | (k, m) :: r, l, h => by
    obtain ⟨k', v, r', rfl, ek, q, t⟩ := h
    obtain ⟨i1, i2⟩ := look_rep hy t
    have eb := mkey_beq ek hy
    unfold lookKV
    rw [eb]
    by_cases z : k' = b
    · rw [if_pos (decide_eq_true z)]
      exact ⟨fun m' e => (by cases e; exact ⟨v, valV_pos z, q⟩), fun e => (by cases e)⟩
    · rw [if_neg (by simp [z])]
      exact ⟨fun m' e => (by rw [valV_neg z]; exact i1 m' e), fun e => (by rw [valV_neg z]; exact i2 e)⟩
/-- no key twice -/
noncomputable def nodK : List (MV × MV) → Bool
  | [] => true
  | (k, _) :: r => (lookKV r k).isNone && nodK r
theorem put_repA {ι β : List Addr} {H : Hp} {y : MV} {b : Key} {mv : MV} {v : V} (hy : mkey y = some b) (hv : RepV c.K ι β H mv v) : ∀ {kvs : List (MV × MV)} {l : List (Key × V)}, RepKV c.K ι β H kvs l → nodK kvs = true → RepKV c.K ι β H (putKV kvs y mv) (if (l.any fun kv => decide (kv.1 = b)) = true then l.map (fun kv => if kv.1 = b then (kv.1, v) else kv) else l ++ [(b, v)])
  | [], l, h, _ => by
    have e : l = [] := h
    subst e
    exact ⟨b, v, [], rfl, hy, hv, rfl⟩
  | (k, m) :: r, l, h, hn => by
    obtain ⟨k', w, r', rfl, ek, q, t⟩ := h
    unfold nodK at hn
    rw [Bool.and_eq_true] at hn
    have eb := mkey_beq ek hy
    unfold putKV
    rw [eb]
    by_cases z : k' = b
    · subst z
      rw [if_pos (by simp), if_pos (by simp)]
      refine ⟨k', v, r', ?_, ek, hv, t⟩
      have hno : valV r' k' = none := (look_rep ek t).2 (by simpa using hn.1)
      have hx : ∀ p ∈ r', ¬ p.1 = k' := fun p hp e => by
        have := valV_any k' r'
        rw [hno] at this
        simp only [Option.isSome_none, List.any_eq_false, decide_eq_true_eq] at this
        exact this p hp e
      simp only [List.map_cons, if_true]
      congr 1
      have : ∀ (s : List (Key × V)), (∀ p ∈ s, ¬ p.1 = k') → s.map (fun kv => if kv.1 = k' then (kv.1, v) else kv) = s := by
        intro s
        induction s with
        | nil => intro _; rfl
        | cons p s ih =>
          intro h
          rw [List.map_cons, if_neg (h p List.mem_cons_self), ih fun q hq => h q (List.mem_cons_of_mem _ hq)]
      exact this r' hx
    · rw [if_neg (by simp [z])]
      have ih := put_repA hy hv t hn.2
      by_cases hany : (r'.any fun kv => decide (kv.1 = b)) = true
      · rw [if_pos hany] at ih
        rw [if_pos (by simp only [List.any_cons, hany, Bool.or_true])]
        simp only [List.map_cons, if_neg z]
        exact ⟨k', w, _, rfl, ek, q, ih⟩
      · rw [if_neg hany] at ih
        rw [if_neg (by simp only [List.any_cons, Bool.or_eq_true, decide_eq_true_eq]; rintro (h | h); exact z h; exact hany h)]
        exact ⟨k', w, _, rfl, ek, q, ih⟩
theorem put_rep {ι β : List Addr} {H : Hp} {y : MV} {b : Key} {mv : MV} {v : V} (hy : mkey y = some b) (hv : RepV c.K ι β H mv v) {kvs : List (MV × MV)} {l : List (Key × V)} (h : RepKV c.K ι β H kvs l) (hn : nodK kvs = true) : RepKV c.K ι β H (putKV kvs y mv) (putK l b v) := by
  unfold putK
  exact put_repA hy hv h hn
theorem RepKV.length {ι β : List Addr} {H : Hp} : ∀ {kvs : List (MV × MV)} {l : List (Key × V)}, RepKV c.K ι β H kvs l → kvs.length = l.length
  | [], l, h => by have e : l = [] := h; subst e; rfl
  | (k, m) :: r, l, h => by
    obtain ⟨k', v, r', rfl, ek, q, t⟩ := h
    simp [RepKV.length t]
/-- a dict, as it may be read -/
noncomputable def asD (v : MV) (h : MH) : Option (List (MV × MV)) := match v with
  | .dv ks ws => some (ks.zip ws)
  | .ref n => match h[n]? with
    | some (.dct l) => some l
    | some (.fdc l) => some l
    | _ => none
  | _ => none
theorem asD_rep {v : MV} {h : MH} {kvs : List (MV × MV)} {ι β : List Addr} {H : Hp} {x : V} (e : asD v h = some kvs) (rel : Rel c ι β H h) (rv : RepV c.K ι β H v x) : ∃ a l o, x = .ref a ∧ H a = some o ∧ IsDV o l ∧ RepKV c.K ι β H kvs l := by
  cases v with
  | dv ks ws =>
    cases e
    unfold RepV at rv
    obtain ⟨a, l, rfl, ⟨⟨o, q, iv⟩, _⟩, r1, r2⟩ := rv
    exact ⟨a, l, o, rfl, q, iv, RepKV.zip r1 r2⟩
  | ref n =>
    unfold RepV at rv
    obtain ⟨a, rfl, ea⟩ := rv
    obtain ⟨o, eo, ro⟩ := rel.at ea
    unfold asD at e
    simp only [eo] at e
    cases o with
    | lst l' => cases e
    | dct l' => cases e; obtain ⟨l, q, r⟩ := ro; exact ⟨a, l, _, rfl, q, .inl rfl, r⟩
    | fdc l' => cases e; obtain ⟨od, l, q, r⟩ := ro; exact ⟨a, l, _, rfl, q, .inr ⟨od, rfl⟩, r⟩
    | odc _ _ _ _ => cases e
    | dtt _ => cases e
    | fdt _ => cases e
    | ins _ _ => cases e
  | _ => cases e
theorem dget_of {H : Hp} {a : Addr} {o : HO} {l : List (Key × V)} (e : H a = some o) (iv : IsDV o l) (k : Key) : DGet H a (kV k) (valV l k) := by
  rcases iv with rfl | ⟨od, rfl⟩
  · exact .inl ⟨l, k, .inl e, rfl, rfl⟩
  · exact .inl ⟨l, k, .inr ⟨od, e⟩, rfl, rfl⟩
theorem mkey_rep {ι β : List Addr} {H : Hp} {m : MV} {k : Key} {v : V} (e : mkey m = some k) (r : RepV c.K ι β H m v) : v = kV k := by
  cases m with
  | int i => cases e; rw [ri r]; rfl
  | str z => cases e; rw [rs r]; rfl
  | _ => cases e
theorem PE.or {e : Expr} {t t' : TE} (h : PE X e t) (h' : PE X e t') : PE X e (fun σ H Q => t σ H Q ∨ t' σ H Q) := ⟨fun pins s σ H Q I q => q.elim (h.run pins s σ H Q I) (h'.run pins s σ H Q I)⟩
theorem PS.or {st : Stmt} {t t' : TS} (h : PS X st t) (h' : PS X st t') : PS X st (fun D σ H => t D σ H ∨ t' D σ H) := ⟨fun pins s σ H D I q => q.elim (h.run pins s σ H D I) (h'.run pins s σ H D I)⟩
noncomputable def mDGet (a b : MV) (h : MH) : R MV := match asD a h with
  | some kvs => match mkey b with
    | some _ => match lookKV kvs b with
      | some v => .ok v h
      | none => .bad
    | none => .bad
  | none => .bad
noncomputable def isDk (v : MV) (h : MH) : Bool := (asD v h).isSome
noncomputable def mIxA (a b : MV) (h : MH) : R MV := if isDk a h = true then mDGet a b h else mIx a b h
variable {a b : Expr} {ra rb : EM} {pos : Pos}
noncomputable def rDGet : R2 := fun x y H Q => ∃ a v, x = .ref a ∧ DGet H a y (some v) ∧ Q v H
theorem p_dget : P2 c rDGet mDGet := fun ι β H mh a b x y Q W rel ra rb p => by
  unfold mDGet at p
  cases ed : asD a mh with
  | none => simp only [ed] at p; exact p.elim
  | some kvs =>
    simp only [ed] at p
    cases ek : mkey b with
    | none => simp only [ek] at p; exact p.elim
    | some k =>
      simp only [ek] at p
      cases el : lookKV kvs b with
      | none => simp only [el] at p; exact p.elim
      | some m =>
        simp only [el] at p
        obtain ⟨q, l, o, rfl, eo, iv, rk⟩ := asD_rep ed rel ra
        obtain ⟨v, ev, rv⟩ := (look_rep ek rk).1 m el
        rw [mkey_rep ek rb]
        exact ⟨q, v, rfl, by rw [← ev]; exact dget_of eo iv k, p ι H v .refl rel rv⟩
theorem e_ixA (hu : X.A.units + 1 < cLine) (hK : X.K = c.K) (ha : PE X a (tE c W ra)) (hb : PE X b (tE c W rb)) (hs : PlainIx b) : PE X (.Subscript a b pos) (tE c W (m2 mIxA ra rb)) :=
  (PE.or (t := tOp rDGet (tE c W ra) (tE c W rb)) (pe_dget hu ha hb hs) (pe_ix ix_seq ha hb hs)).wk fun σ H Q ⟨ι, β, mh, σm, rel, rl, p⟩ => by
    have key : ∃ d : Bool, m2 mIxA ra rb σm mh = if d = true then m2 mDGet ra rb σm mh else m2 mIx ra rb σm mh := by
      unfold m2
      cases ea : ra σm mh with
      | bad => exact ⟨true, rfl⟩
      | ex x h1 => exact ⟨true, rfl⟩
      | ok va h1 =>
        simp only [bindR]
        cases eb : rb σm h1 with
        | bad => exact ⟨true, rfl⟩
        | ex x h1 => exact ⟨true, rfl⟩
        | ok vb h2 => exact ⟨isDk va h2, by simp only [mIxA]⟩
    obtain ⟨d, e⟩ := key
    rw [e] at p
    cases d with
    | true => exact .inl (m2_of p_dget ⟨ι, β, mh, σm, rel, rl, p⟩)
    | false => rw [hK]; exact .inr (m2_of p_ix ⟨ι, β, mh, σm, rel, rl, p⟩)
noncomputable def mMul (fin : List MV → MH → R MV) (a b : MV) (h : MH) : R MV := match a, b with
  | .int i, .int j => mMulI (.int i) (.int j) h
  | a, .int k => match asL a h with
    | some l => if (inB k && decide (l.length * k.toNat ≤ SZ)) = true then fin (List.replicate k.toNat l).flatten h else .bad
    | none => .bad
  | _, _ => .bad
noncomputable def rMulA : R2 := fun x y H Q => rI CMul (fun i j => .int (i * j)) x y H Q ∨ rRep x y H Q
theorem op_mulA : OpR X (binaryOp .Mult) rMulA := op_mul.or op_rep
theorem p_mulA {fin : List MV → MH → R MV} (hf : FinN c fin) : P2 c rMulA (mMul fin) := fun ι β H mh a b x y Q W rel ra rb p => by
  have lists : ∀ k, b = .int k → Post c ι β H (RV c) Q W (match asL a mh with | some l => if (inB k && decide (l.length * k.toNat ≤ SZ)) = true then fin (List.replicate k.toNat l).flatten mh else .bad | none => .bad) → rMulA x y H Q := fun k eb pk => by
    clear p
    subst eb
    cases el : asL a mh with
    | none => rw [el] at pk; exact pk.elim
    | some l =>
      rw [el] at pk
      dsimp only at pk
      split at pk
      · rename_i hh
        simp only [Bool.and_eq_true, decide_eq_true_eq] at hh
        obtain ⟨a1, v1, rfl, q1, r1⟩ := asL_rep el rel ra
        obtain ⟨h1, h2⟩ := inB_iff hh.1
        exact .inr ⟨a1, k, v1, rfl, ri rb, q1, by omega, by omega, by rw [← r1.length, sz_eq]; exact hh.2, fun z hz => hf _ _ _ _ _ _ _ _ _ rel (r1.flat _) hz pk⟩
      · exact pk.elim
  cases b with
  | int k =>
    cases a with
    | int i => exact .inl (p_mul ι β H mh _ _ x y Q W rel ra rb p)
    | _ => exact lists k rfl p
  | _ => cases a <;> exact p.elim
noncomputable def sPar (i j : Nat) (rs : AM) : SM := fun σ h => bindS (rs σ h) σ fun as h1 => match as with
  | [a, b] => .nx ((σ.set i (some a)).set j (some b)) h1
  | _ => .bad
theorem s_par {i j : Nat} {x y : Str} {a b : Expr} {rs : AM} {px py pt : Pos} {kt k2 pt2} (hc : X.calm = true) (hN : X.N.Nodup) (hi : X.N[i]? = some x) (hj : X.N[j]? = some y) (hij : i ≠ j)
    (hx : X.env.scope.names.lookup x = some .local) (hy : X.env.scope.names.lookup y = some .local) (ha : PA X [a, b] (tA c W rs))
    (hw : swappedStores [.Tuple [.Name x px, .Name y py] kt pt] (.Tuple [a, b] k2 pt2) X.env = pure (some [x, y]) := by rfl)
    (hs : swapsWithSole [.Tuple [.Name x px, .Name y py] kt pt] (.Tuple [a, b] k2 pt2) pos.line X.env = pure false := by rfl) :
    PS X (.Assign [.Tuple [.Name x px, .Name y py] kt pt] (.Tuple [a, b] k2 pt2) pos) (tS c W (sPar i j rs)) :=
  (ps_par hc hN hi hj hij hx hy ha hw hs).wk fun D σ H ⟨ι, β, mh, σm, rel, rl, q⟩ => by
    refine (run1S rel rl q).mono fun vs H1 ⟨ι1, mh1, as, f1, rel1, rl1, ra, p1⟩ => ?_
    split at p1
    · obtain ⟨v, w, rfl, q1, q2⟩ := Vs2 ra
      exact ⟨v, w, rfl, p1 ι1 H1 _ .refl rel1 ((rl1.set q1).set q2)⟩
    · exact p1.elim
end
end MP
namespace MP
open PySem PySem.Spec PyProof.Rows L2
@[simp] theorem bindR_ok {α γ : Type} (a : α) (h : MH) (k : α → MH → R γ) : bindR (.ok a h) k = k a h := rfl
@[simp] theorem bindS_ok {α : Type} (a : α) (h : MH) (σ : Lo) (k : α → MH → SR) : bindS (.ok a h) σ k = k a h := rfl
section
variable (i j : Int) (h : MH)
@[simp] theorem lt_int : mLt (.int i) (.int j) h = .ok (.bl (decide (i < j))) h := rfl
@[simp] theorem le_int : mLe (.int i) (.int j) h = .ok (.bl (decide (i ≤ j))) h := rfl
@[simp] theorem gt_int : mGt (.int i) (.int j) h = .ok (.bl (decide (j < i))) h := rfl
@[simp] theorem ge_int : mGe (.int i) (.int j) h = .ok (.bl (decide (j ≤ i))) h := rfl
@[simp] theorem sub_int : mSubI (.int i) (.int j) h = .ok (.int (i - j)) h := rfl
@[simp] theorem add_int (fin) : mAdd fin (.int i) (.int j) h = .ok (.int (i + j)) h := rfl
theorem mod_int (p : 0 < j) : mModI (.int i) (.int j) h = .ok (.int (i % j)) h := by
  simp [mModI, iop, p]
theorem div_int (p : 0 < j) (q : j < 1073741824) : mDivI (.int i) (.int j) h = .ok (.int (i / j)) h := by
  simp [mDivI, iop, p, q]
theorem mul_int (fin) (q : (-18446744073709551616 < i ∧ i < 18446744073709551616) ∨ (-18446744073709551616 < j ∧ j < 18446744073709551616)) : mMul fin (.int i) (.int j) h = .ok (.int (i * j)) h := by
  have e : ((decide (-18446744073709551616 < i) && decide (i < 18446744073709551616)) || (decide (-18446744073709551616 < j) && decide (j < 18446744073709551616))) = true := by
    simpa using q
  show mMulI _ _ _ = _
  unfold mMulI iop
  simp only [e, if_true]
@[simp] theorem neg_int : mNeg (.int i) h = .ok (.int (-i)) h := rfl
@[simp] theorem eq_int : mEq (.int i) (.int j) h = .ok (.bl (decide (i = j))) h := by
  simp only [mEq, eqMV, toD, SeqAt.shaped, PyData.canLay0, PyData.depth, PyData.eqv, Nat.zero_le, decide_true, Bool.and_self, if_true, Bool.false_eq_true, if_false]
  by_cases z : i = j <;> simp [z]
@[simp] theorem ne_int : mNe (.int i) (.int j) h = .ok (.bl (!decide (i = j))) h := by
  simp only [mNe, eqMV, toD, SeqAt.shaped, PyData.canLay0, PyData.depth, PyData.eqv, Nat.zero_le, decide_true, Bool.and_self, if_true]
  by_cases z : i = j <;> simp [z]
@[simp] theorem isInt_int : isT .int (.int i) h = .ok (.bl true) h := rfl
@[simp] theorem isBl_int : isT .bl (.int i) h = .ok (.bl false) h := rfl
@[simp] theorem isTup_tup (l : List MV) : isT .tup (.tup l) h = .ok (.bl true) h := rfl
@[simp] theorem isNot_bl (a b : Bool) : mIsNot (.bl a) (.bl b) h = .ok (.bl (!decide (a = b))) h := rfl
@[simp] theorem is_bl (a b : Bool) : mIs (.bl a) (.bl b) h = .ok (.bl (decide (a = b))) h := rfl
end
mutual
@[simp] noncomputable def pureV : MV → Bool
  | .tup l => pureVs l
  | .lv l => pureVs l
  | .dv _ ws => pureVs ws
  | .fz l => pureVs l
  | .ref _ => false
  | .exv _ _ _ => false
  | .ov _ ws k w => pureVs ws && (pureV k && pureV w)
  | _ => true
@[simp] noncomputable def pureVs : List MV → Bool
  | [] => true
  | a :: l => pureV a && pureVs l
end
mutual
theorem cl_pure (n : Nat) : ∀ {v : MV}, pureV v = true → clV n v = true
  | .tup l, h => by unfold pureV at h; unfold clV; exact cls_pure n h
  | .lv l, h => by unfold pureV at h; unfold clV; exact cls_pure n h
  | .dv _ l, h => by unfold pureV at h; unfold clV; exact cls_pure n h
  | .fz l, h => by unfold pureV at h; unfold clV; exact cls_pure n h
  | .ref _, h => by unfold pureV at h; cases h
  | .exv _ _ _, h => by unfold pureV at h; cases h
  | .ov _ ws k w, h => by
    unfold pureV at h
    rw [Bool.and_eq_true, Bool.and_eq_true] at h
    unfold clV
    rw [cls_pure n h.1, cl_pure n h.2.1, cl_pure n h.2.2]; rfl
  | .non, _ => by unfold clV; rfl
  | .bl _, _ => by unfold clV; rfl
  | .int _, _ => by unfold clV; rfl
  | .str _, _ => by unfold clV; rfl
theorem cls_pure (n : Nat) : ∀ {l : List MV}, pureVs l = true → clVs n l = true
  | [], _ => by unfold clVs; rfl
  | a :: l, h => by
    unfold pureVs at h
    rw [Bool.and_eq_true] at h
    unfold clVs
    rw [cl_pure n h.1, cls_pure n h.2]; rfl
end
theorem pures_map {α : Type} {f : α → MV} (h : ∀ x, pureV (f x) = true) : ∀ l : List α, pureVs (l.map f) = true
  | [] => by simp [pureVs]
  | a :: l => by rw [List.map_cons, pureVs, h, pures_map h l]; rfl
@[simp] theorem pure_ints (ns : List Int) : pureVs (ns.map .int) = true := pures_map (fun _ => by simp [pureV]) ns
theorem fr_pure (h : MH) (n f : Nat) {v : MV} (p : pureV v = true) : frV h n f v = some v := by
  cases f <;> simp [frV, cl_pure n p]
theorem frs_pure (h : MH) (n f : Nat) : ∀ {l : List MV}, pureVs l = true → mapO (frV h n f) l = some l
  | [], _ => rfl
  | a :: l, p => by
    rw [pureVs, Bool.and_eq_true] at p
    rw [mapO, fr_pure h n f p.1, frs_pure h n f p.2]
@[simp] theorem take_app (h g : MH) : (h ++ g).take h.length = h := by simp
theorem kept_app (h g : MH) : keptH h (h ++ g) = true := by simp [keptH]
/-- the same heap behind it -/
@[simp] theorem gcF_same (h : MH) (v : MV) : gcF h v h = .ok v h := by simp [gcF]
theorem gcF_list (h g : MH) {l : List MV} {k : Nat} (e : g[k]? = some (.lst l)) (p : pureVs l = true) : gcF h (.ref (h.length + k)) (h ++ g) = .ok (.lv l) h := by
  obtain ⟨hk, ek⟩ := List.getElem?_eq_some_iff.mp e
  have z : ¬ (h ++ g).length ≤ h.length := by rw [List.length_append]; omega
  unfold gcF
  rw [if_neg z, if_pos (kept_app h g)]
  have e2 : (h ++ g)[h.length + k]? = some (.lst l) := by rw [List.getElem?_append_right (by omega)]; simpa using e
  have e3 : frV (h ++ g) h.length 12 (.ref (h.length + k)) = some (.lv l) := by
    rw [frV]
    have : clV h.length (.ref (h.length + k)) = false := by rw [clV]; simp
    rw [this]
    simp only [Bool.false_eq_true, if_false, e2, frs_pure _ _ _ p, Option.map_some]
  rw [e3, take_app]
theorem gcF_new (h : MH) {l : List MV} (p : pureVs l = true) : gcF h (.ref h.length) (h ++ [.lst l]) = .ok (.lv l) h := gcF_list h [.lst l] (k := 0) rfl p
theorem gcR_pure (h g : MH) {v : MV} (p : pureV v = true) : gcR h v (h ++ g) = .ok v (h ++ g) := by
  unfold gcR
  rw [if_pos (kept_app h g)]
  cases v with
  | ref n => simp at p
  | _ => rfl
@[simp] theorem gcR_same (h : MH) {v : MV} (p : pureV v = true) : gcR h v h = .ok v h := by
  have := gcR_pure h [] p
  rwa [List.append_nil] at this
theorem gcR_list (h g : MH) {l : List MV} {k : Nat} (e : g[k]? = some (.lst l)) (p : pureVs l = true) : gcR h (.ref (h.length + k)) (h ++ g) = .ok (.ref h.length) (h ++ [.lst l]) := by
  unfold gcR
  have e2 : (h ++ g)[h.length + k]? = some (.lst l) := by rw [List.getElem?_append_right (by omega)]; simpa using e
  rw [if_pos (kept_app h g)]
  simp only [show ¬ (h.length + k < h.length) from by omega, if_false, e2, frs_pure _ _ _ p, take_app]
theorem gcR_new (h : MH) {l : List MV} (p : pureVs l = true) : gcR h (.ref h.length) (h ++ [.lst l]) = .ok (.ref h.length) (h ++ [.lst l]) := gcR_list h [.lst l] (k := 0) rfl p
theorem cF_val0 {n : Nat} {m : List MV → MH → R MV} {as : List MV} {h : MH} {v : MV} (hl : as.length = n) (e : m as h = .ok v h) : cF n m as h = .ok v h := by
  unfold cF; rw [if_pos hl, e, bindR_ok, gcF_same]
theorem cF_new {n : Nat} {m : List MV → MH → R MV} {as : List MV} {h : MH} {l : List MV} (hl : as.length = n) (e : m as h = .ok (.ref h.length) (h ++ [.lst l])) (p : pureVs l = true) : cF n m as h = .ok (.lv l) h := by
  unfold cF; rw [if_pos hl, e, bindR_ok, gcF_new h p]
theorem cR_val0 {n : Nat} {m : List MV → MH → R MV} {as : List MV} {h : MH} {v : MV} (hl : as.length = n) (e : m as h = .ok v h) (p : pureV v = true) : cR n m as h = .ok v h := by
  unfold cR; rw [if_pos hl, e, bindR_ok, gcR_same _ p]
theorem cR_new {n : Nat} {m : List MV → MH → R MV} {as : List MV} {h : MH} {l : List MV} (hl : as.length = n) (e : m as h = .ok (.ref h.length) (h ++ [.lst l])) (p : pureVs l = true) : cR n m as h = .ok (.ref h.length) (h ++ [.lst l]) := by
  unfold cR; rw [if_pos hl, e, bindR_ok, gcR_new h p]
@[simp] theorem get_new (h : MH) (o : MO) : (h ++ [o])[h.length]? = some o := by simp
theorem mapO_map {α : Type} {γ δ : Type} {f : γ → Option δ} {g : α → γ} {k : α → δ} : ∀ {l : List α}, (∀ x ∈ l, f (g x) = some (k x)) → mapO f (l.map g) = some (l.map k)
  | [], _ => rfl
  | a :: l, h => by
    rw [List.map_cons, mapO, h a List.mem_cons_self, mapO_map (fun x hx => h x (List.mem_cons_of_mem _ hx))]
    rfl
theorem lcGo_map {α : Type} {chk : MH → Bool} {p : TP} {t : TM} {e : EM} {σ : Lo} {h : MH} (hc : chk h = true) {q : α → MV} {b : α → Bool} {f : α → MV} : ∀ {l : List α}, (∀ x ∈ l, ∃ σ1, asP p (q x) σ = some σ1 ∧ t σ1 h = .ok (b x) h ∧ (b x = true → e σ1 h = .ok (f x) h)) →
    lcGo chk p t e (l.map q) σ h = .ok ((l.filter b).map f) h
  | [], _ => by rw [List.map_nil, lcGo, if_pos hc]; rfl
  | x :: xs, z => by
    obtain ⟨σ1, e1, e2, e3⟩ := z x List.mem_cons_self
    have ih := lcGo_map (l := xs) hc fun y hy => z y (List.mem_cons_of_mem _ hy)
    rw [List.map_cons, lcGo, if_pos hc, e1]
    simp only [e2]
    cases hb : b x with
    | true =>
      simp only [if_true, e3 hb, ih, List.filter_cons, hb, List.map_cons]
    | false =>
      simp only [Bool.false_eq_true, if_false, ih, List.filter_cons, hb]
/-- without a test -/
theorem lcGo_all {α : Type} {chk : MH → Bool} {p : TP} {e : EM} {σ : Lo} {h : MH} (hc : chk h = true) {q : α → MV} {f : α → MV} {l : List α} (z : ∀ x ∈ l, ∃ σ1, asP p (q x) σ = some σ1 ∧ e σ1 h = .ok (f x) h) :
    lcGo chk p mYes e (l.map q) σ h = .ok (l.map f) h := by
  rw [lcGo_map (b := fun _ => true) hc fun x hx => by
    obtain ⟨σ1, e1, e2⟩ := z x hx
    exact ⟨σ1, e1, rfl, fun _ => e2⟩]
  rw [List.filter_eq_self.mpr (fun _ _ => rfl)]
theorem inB_of {i : Int} (h1 : -1000000000 ≤ i) (h2 : i ≤ 1000000000) : inB i = true := by
  unfold inB
  rw [decide_eq_true (Int.le_trans (show -B62 ≤ -1000000000 by decide) h1), decide_eq_true (Int.lt_of_le_of_lt h2 (show (1000000000 : Int) < B62 by decide))]
  rfl
theorem gcL_app {ks : List Nat} {h g : MH} {σ : Lo} (e : clL h.length (killL ks σ) = true) : gcL ks h σ (h ++ g) = (killL ks σ, h) := by
  unfold gcL
  by_cases z : (h ++ g).length ≤ h.length
  · have : g = [] := by
      rw [List.length_append] at z
      exact List.length_eq_zero_iff.mp (by omega)
    subst this
    rw [if_pos z, List.append_nil]
  · rw [if_neg z, e, kept_app, take_app]; rfl
@[simp] theorem gcL_same (ks : List Nat) (h : MH) (σ : Lo) : gcL ks h σ h = (killL ks σ, h) := by simp [gcL]
theorem sGc_app {ks : List Nat} {b : SM} {σ σ2 : Lo} {h g : MH} (e : b σ h = .nx σ2 (h ++ g)) (cl : clL h.length (killL ks σ2) = true) : sGc ks b σ h = .nx (killL ks σ2) h := by
  unfold sGc; rw [e]; simp only [gcL_app cl]
@[simp] theorem set_new (h : MH) (o o' : MO) : (h ++ [o]).set h.length o' = h ++ [o'] := by
  rw [List.set_append_right _ _ (Nat.le_refl _)]; simp
end MP
namespace MP
open PySem PySem.Spec PyProof.Rows L2
noncomputable def prM (p : Int × Int) : MV := .tup [.int p.1, .int p.2]
noncomputable def prs? : List MV → Option (List (Int × Int))
  | [] => some []
  | a :: l => match a with
    | .tup [.int i, .int j] => match prs? l with
      | some r => some ((i, j) :: r)
      | none => none
    | _ => none
@[simp] theorem prs?_map : ∀ ps : List (Int × Int), prs? (ps.map prM) = some ps
  | [] => rfl
  | (i, j) :: ps => by
    rw [List.map_cons]
    show prs? (.tup [.int i, .int j] :: ps.map prM) = _
    rw [prs?, prs?_map ps]
noncomputable def toL (p : Int × Int) : List Int := [p.1, p.2]
/-- what stands in the set being built -/
structure InS (c : C) (ι β : List Addr) (H : Hp) (ps : List (Int × Int)) (L : List (Addr × List Int)) : Prop where
  rep : ∀ q ∈ L, ∃ p : Int × Int, q.2 = toL p ∧ p ∈ ps ∧ RepV c.K ι β H (prM p) (.ref q.1)
  all : ∀ p ∈ ps, toL p ∈ L.map (·.2)
  nd : (L.map (·.2)).Nodup
section
variable {c : C} {ι ι' β β' : List Addr} {H H' : Hp} {ps : List (Int × Int)} {L L' : List (Addr × List Int)}
theorem InS.move (f : Mov ι β H ι' β' H') (h : InS c ι β H ps L) : InS c ι' β' H' ps L :=
  ⟨fun q hq => let ⟨p, e, m, r⟩ := h.rep q hq; ⟨p, e, m, r.move f⟩, h.all, h.nd⟩
theorem InS.put {p : Int × Int} {a : Addr} (h : InS c ι β H ps L) (r : RepV c.K ι β H (prM p) (.ref a)) (c1 : toL p ∈ L.map (·.2) → L' = L) (c2 : toL p ∉ L.map (·.2) → L'.Perm ((a, toL p) :: L)) : InS c ι β H (ps ++ [p]) L' := by
  by_cases z : toL p ∈ L.map (·.2)
  · rw [c1 z]
    exact ⟨fun q hq => let ⟨p', e, m, r⟩ := h.rep q hq; ⟨p', e, List.mem_append_left _ m, r⟩, fun p' hp => (List.mem_append.mp hp).elim (h.all p') fun e => by rw [List.mem_singleton.mp e]; exact z, h.nd⟩
  · have pm := c2 z
    have pm2 : (L'.map (·.2)).Perm (toL p :: L.map (·.2)) := pm.map (·.2)
    refine ⟨fun q hq => ?_, fun p' hp => ?_, pm2.nodup_iff.mpr (List.nodup_cons.mpr ⟨z, h.nd⟩)⟩
    · rcases List.mem_cons.mp (pm.mem_iff.mp hq) with e | hq
      · rw [e]; exact ⟨p, rfl, by simp, r⟩
      · obtain ⟨p', e, m, r⟩ := h.rep q hq
        exact ⟨p', e, List.mem_append_left _ m, r⟩
    · rw [pm2.mem_iff]
      rcases List.mem_append.mp hp with hp | hp
      · exact List.mem_cons_of_mem _ (h.all p' hp)
      · rw [List.mem_singleton.mp hp]; exact List.mem_cons_self
end
theorem wipe_wipe (σ : St) (vs : List Nat) : wipe (wipe σ vs) vs = wipe σ vs := by
  have gen : ∀ (ws : List Nat) (τ : St), (∀ j ∈ ws, ∀ v, τ[j]? = some v → v = none) → wipe τ ws = τ := by
    intro ws
    induction ws with
    | nil => intro τ _; rfl
    | cons k ws ih =>
      intro τ h
      unfold wipe
      rw [ih τ fun j hj => h j (List.mem_cons_of_mem _ hj)]
      apply List.ext_getElem?
      intro j
      rw [List.getElem?_set]
      split
      · rename_i e
        subst e
        split
        · rename_i hk
          cases e2 : τ[k]? with
          | none => rw [List.getElem?_eq_getElem hk] at e2; cases e2
          | some v => rw [h k List.mem_cons_self v e2]
        · rename_i hk
          rw [List.getElem?_eq_none (by omega)]
      · rfl
  refine gen vs _ fun j hj v hv => ?_
  cases v with
  | none => rfl
  | some z => exact absurd hj (wipe_some hv).2
end MP
namespace MP
open PySem PySem.Spec PyProof.Rows L2
section
variable {c : C} {X : Cx} {W : WX}
noncomputable def rDInX (neg : Bool) : R2 := fun y x H Q => ∃ a o, x = .ref a ∧ DGet H a y o ∧ Q (.bl (if neg then !o.isSome else o.isSome)) H
theorem op_dinX (hu : X.A.units + 1 < cLine) : OpR X (compareOp .In) (rDInX false) := fun pins s σ H y x v u Q I ry rx ⟨a, o, ex, g, q⟩ => by
  subst ex
  obtain rfl : u = Value.ref a := rx
  exact d_in hu I g ry fun s' I' => ⟨.bl o.isSome, H, I', rfl, q⟩
theorem op_dnotinX (hu : X.A.units + 1 < cLine) : OpR X (compareOp .NotIn) (rDInX true) := fun pins s σ H y x v u Q I ry rx ⟨a, o, ex, g, q⟩ => by
  subst ex
  obtain rfl : u = Value.ref a := rx
  exact d_notIn hu I g ry fun s' I' => ⟨.bl (!o.isSome), H, I', rfl, q⟩
noncomputable def rLInX (K : PySem.W.Frag) (neg : Bool) : R2 := fun x y H Q => ∃ d ds, Dp K H x d ∧ Dp K H y (.list ds) ∧ SeqAt.shaped d = true ∧ SeqAt.shaped (.list ds) = true ∧ Q (.bl (if neg then !(ds.any fun z => PyData.eqv z d) else ds.any fun z => PyData.eqv z d)) H
theorem op_inA (hu : X.A.units + 65 < cLine) : OpR X (compareOp .In) (fun x y H Q => rDInX false x y H Q ∨ rLInX X.K false x y H Q) := (op_dinX (by omega)).or (op_inD hu)
theorem op_notInA (hu : X.A.units + 65 < cLine) : OpR X (compareOp .NotIn) (fun x y H Q => rDInX true x y H Q ∨ rLInX X.K true x y H Q) := (op_dnotinX (by omega)).or (op_notInD hu)
noncomputable def inL (neg : Bool) (a b : MV) (h : MH) : R MV := match toD h 12 a, toD h 12 b with
  | some d, some (.list ds) => if (SeqAt.shaped d && SeqAt.shaped (.list ds)) = true then .ok (.bl (if neg then !(ds.any fun z => PyData.eqv z d) else ds.any fun z => PyData.eqv z d)) h else .bad
  | _, _ => .bad
noncomputable def mInX (neg : Bool) (a b : MV) (h : MH) : R MV := match asD b h with
  | some kvs => match mkey a with
    | some _ => .ok (.bl (if neg then !(lookKV kvs a).isSome else (lookKV kvs a).isSome)) h
    | none => .bad
  | none => inL neg a b h
theorem p_inX (neg : Bool) : P2 c (fun x y H Q => rDInX neg x y H Q ∨ rLInX c.K neg x y H Q) (mInX neg) := fun ι β H mh a b x y Q W rel ra rb p => by
  unfold mInX at p
  cases ed : asD b mh with
  | some kvs =>
    simp only [ed] at p
    cases ek : mkey a with
    | none => simp only [ek] at p; exact p.elim
    | some k =>
      simp only [ek] at p
      obtain ⟨d, l, o, rfl, hd, iv, r⟩ := asD_rep ed rel rb
      have dg := dget_of hd iv k
      obtain ⟨l1, l2⟩ := look_rep ek r
      have e : (valV l k).isSome = (lookKV kvs a).isSome := by
        cases el : lookKV kvs a with
        | none => rw [l2 el]; rfl
        | some m => obtain ⟨v, ev, _⟩ := l1 m el; rw [ev]; rfl
      rw [mkey_rep ek ra]
      refine .inl ⟨d, _, rfl, dg, ?_⟩
      rw [e]
      exact p ι H _ .refl rel (rbl _ _ _)
  | none =>
    simp only [ed] at p
    unfold inL at p
    split at p
    · rename_i d ds h1 h2
      split at p
      · rename_i hs
        rw [Bool.and_eq_true] at hs
        exact .inr ⟨d, ds, toD_dp rel _ _ _ _ h1 ra, toD_dp rel _ _ _ _ h2 rb, hs.1, hs.2, p ι H _ .refl rel (rbl _ _ _)⟩
      · exact p.elim
    · exact p.elim
noncomputable def bls? : List MV → Option (List Bool)
  | [] => some []
  | a :: l => match a with
    | .bl b => match bls? l with
      | some r => some (b :: r)
      | none => none
    | _ => none
theorem bls?_eq : ∀ {l : List MV} {bs : List Bool}, bls? l = some bs → l = bs.map .bl
  | [], ps, h => by cases h; rfl
  | a :: l, ps, h => by
    unfold bls? at h
    split at h
    · rename_i b
      cases e : bls? l with
      | none => simp [e] at h
      | some r =>
        simp only [e, Option.some.injEq] at h
        subst h
        rw [bls?_eq e]; rfl
    · cases h
@[simp] theorem bls?_map : ∀ bs : List Bool, bls? (bs.map .bl) = some bs
  | [] => rfl
  | b :: bs => by rw [List.map_cons, bls?, bls?_map bs]
theorem bls_rep {K : PySem.W.Frag} {ι β : List Addr} {H : Hp} : ∀ {bs : List Bool} {vs : List V}, RepVs K ι β H (bs.map .bl) vs → vs = bs.map V.bl
  | [], vs, h => h.nil_iff
  | b :: bs, vs, h => by
    obtain ⟨v, r, rfl, q, t⟩ := h.cons_iff
    rw [rb q, bls_rep t]; rfl
noncomputable def mAllX (f : List Bool → Bool) (as : List MV) (h : MH) : R MV := match as with
  | [a] => match asL a h with
    | some l => match bls? l with
      | some bs => .ok (.bl (f bs)) h
      | none => .bad
    | none => .bad
  | _ => .bad
noncomputable def mAll := mAllX fun bs => bs.all id
theorem p_allX (f : List Bool → Bool) : PN c (fun vs H Q => ∃ (a : Addr) (bs : List Bool), vs = [V.ref a] ∧ SqL c.K H a (bs.map V.bl) ∧ Q (.bl (f bs)) H) (mAllX f) := fun ι β H mh as xs Q W rel ra p => by
  unfold mAllX at p
  split at p
  · rename_i a
    obtain ⟨v, rfl, q⟩ := Vs1 ra
    cases el : asL a mh with
    | none => simp only [el] at p; exact p.elim
    | some l =>
      simp only [el] at p
      cases eb : bls? l with
      | none => simp only [eb] at p; exact p.elim
      | some bs =>
        simp only [eb] at p
        obtain ⟨d, vs, rfl, sq, r⟩ := asL_rep el rel q
        rw [bls?_eq eb] at r
        rw [bls_rep r] at sq
        exact ⟨d, bs, rfl, .inl (.inl sq), p ι H _ .refl rel (rbl _ _ _)⟩
  · exact p.elim
theorem p_all : PN c (rAll c.K) mAll := p_allX _
end
end MP
namespace MP
open PySem PySem.Spec PyProof.Rows L2
section
variable {c : C} {X : Cx} {W : WX} {tg e : Expr} {re : EM}
theorem RepKs.len : ∀ {ks : List MV} {r : List Key}, RepKs ks r → ks.length = r.length
  | [], r, h => by
    have z : r = [] := h
    rw [z]; rfl
  | k :: ks, r, h => by
    obtain ⟨k', r', rfl, _, t⟩ := h
    rw [List.length_cons, List.length_cons, RepKs.len t]
theorem RepKs.at : ∀ {ks : List MV} {r : List Key} {i : Nat} {m : MV}, RepKs ks r → ks[i]? = some m → ∃ k, r[i]? = some k ∧ mkey m = some k
  | [], r, i, m, h, e => by simp at e
  | k :: ks, r, 0, m, h, e => by
    obtain ⟨k', r', rfl, ek, t⟩ := h
    simp only [List.getElem?_cons_zero, Option.some.injEq] at e
    subst e
    exact ⟨k', rfl, ek⟩
  | k :: ks, r, i + 1, m, h, e => by
    obtain ⟨k', r', rfl, _, t⟩ := h
    have e' : ks[i]? = some m := by simpa using e
    obtain ⟨q, e1, e2⟩ := RepKs.at t e'
    exact ⟨q, by simpa using e1, e2⟩
end
theorem hu65 {k : Nat} {A : Around} (hr : RoomG k A) : A.units + 65 < cLine := by have := hr.un; omega
@[simp] noncomputable def gmUnl (gs : GMs) (n : Nat) : GM := fun v σ h => match asL v h with
  | some l => if l.length = n then gs l σ h else .bad
  | none => .bad
end MP
namespace MP
open PySem PySem.Spec PyProof.Rows L2
noncomputable def putAll (acc l : List (MV × MV)) : List (MV × MV) := l.foldl (fun a p => putKV a p.1 p.2) acc
@[simp] theorem putAll_nil (acc : List (MV × MV)) : putAll acc [] = acc := rfl
theorem putAll_cons (acc : List (MV × MV)) (k v : MV) (l : List (MV × MV)) : putAll acc ((k, v) :: l) = putAll (putKV acc k v) l := rfl
theorem putKV_len (k v : MV) : ∀ l : List (MV × MV), (putKV l k v).length ≤ l.length + 1
  | [] => by simp [putKV]
  | (a, b) :: l => by
    unfold putKV
    split
    · simp
    · have := putKV_len k v l
      simp only [List.length_cons]; omega
theorem look_put (k v y : MV) : ∀ l : List (MV × MV), (∀ a b : MV, beqV a b = true → a = b) → lookKV (putKV l k v) y = if beqV k y = true then some v else lookKV l y
  | [], _ => by unfold putKV; simp [lookKV]
  | (a, b) :: l, he => by
    have ih := look_put k v y l he
    unfold putKV
    by_cases z : beqV a k = true
    · rw [if_pos z]
      have := he a k z
      subst this
      by_cases z2 : beqV a y = true <;> simp [lookKV, z2]
    · rw [if_neg z]
      by_cases z2 : beqV a y = true
      · have e := he a y z2
        subst e
        have z3 : ¬ beqV k a = true := fun q => z (by rw [he k a q, beqV_self])
        simp [lookKV, z3]
      · simp [lookKV, z2, ih]
theorem nod_put (k v : MV) : ∀ l : List (MV × MV), nodK l = true → nodK (putKV l k v) = true
  | [], _ => rfl
  | (a, b) :: l, h => by
    unfold nodK at h
    rw [Bool.and_eq_true] at h
    unfold putKV
    by_cases z : beqV a k = true
    · rw [if_pos z]
      have := beqV_eq z
      subst this
      unfold nodK
      rw [h.1, h.2]; rfl
    · rw [if_neg z]
      unfold nodK
      rw [nod_put k v l h.2, look_put k v a l fun a b => beqV_eq]
      have z3 : ¬ beqV k a = true := fun q => z (by rw [beqV_eq q, beqV_self])
      rw [if_neg z3, h.1]; rfl
noncomputable def keysOk (l : List (MV × MV)) : Bool := l.all fun p => (mkey p.1).isSome
noncomputable def dcIn (chk : MH → Bool) (p : TP) (ek ev : EM) : List MV → Lo → MH → R (List (MV × MV))
  | [], _, h => if chk h = true then .ok [] h else .bad
  | x :: xs, σ, h => if chk h = true then match asP p x σ with
      | none => .bad
      | some σ1 => match ek σ1 h with
        | .ok k h1 => match ev σ1 h1 with
          | .ok v h2 => match dcIn chk p ek ev xs σ h2 with
            | .ok r h3 => .ok ((k, v) :: r) h3
            | _ => .bad
          | _ => .bad
        | _ => .bad
    else .bad
noncomputable def PostD (c : C) (ι1 β : List Addr) (H1 : Hp) (D : Addr) (acc : List (MV × MV)) (Q : Hp → Prop) : R (List (MV × MV)) → Prop
  | .ok r h' => keysOk r = true ∧ acc.length + r.length ≤ SZ ∧ ∀ ι' H' kvs, Fr ι1 H1 ι' H' → Rel c ι' (D :: β) H' h' → H' D = some (.dK kvs) → RepKV c.K ι' (D :: β) H' (putAll acc r) kvs → nodK (putAll acc r) = true → Q H'
  | _ => False
/-- one pair put, the others to come -/
theorem PostD.step {c : C} {ι1 β : List Addr} {H1 : Hp} {D : Addr} {acc : List (MV × MV)} {Q : Hp → Prop} {k v : MV} {r : List (MV × MV)} {h : MH} (p : PostD c ι1 β H1 D acc Q (.ok ((k, v) :: r) h)) : (mkey k).isSome = true ∧ acc.length < SZ ∧ PostD c ι1 β H1 D (putKV acc k v) Q (.ok r h) := by
  obtain ⟨a, b, q⟩ := p
  unfold keysOk at a
  rw [List.all_cons, Bool.and_eq_true] at a
  rw [List.length_cons] at b
  have := putKV_len k v acc
  exact ⟨a.1, by omega, a.2, by omega, q⟩
theorem vw_dK {l : List (Key × V)} {o : HO} (h : Vw (.dK l) o) : IsDV o l := h.dv (.inl rfl)
/-- the dict being built stays what it is while other things are done -/
theorem keep_D {c : C} {ι β ι' : List Addr} {H H' : Hp} {D : Addr} {kvs : List (Key × V)} {mh mh' : MH} (rel : Rel c ι (D :: β) H mh) (hD : H D = some (.dK kvs)) (f : Fr ι H ι' H') (rel' : Rel c ι' (D :: β) H' mh') : H' D = some (.dK kvs) := by
  obtain ⟨_, _, nD, _⟩ := rel.ban D List.mem_cons_self
  obtain ⟨o2, e2, _, nf⟩ := rel'.ban D List.mem_cons_self
  obtain ⟨o1, e1, w1⟩ := f.keep D _ hD nD
  rcases vw_dK w1 with rfl | ⟨od, rfl⟩
  · exact e1
  · rw [e2] at e1
    injection e1 with e1
    exact absurd e1 (nf.1 _ _)
section
variable {c : C} {J : It} {items : List MV} {chk : MH → Bool} {inv : List Addr → List Addr → Hp → Prop} {ι1 β : List Addr} {H1 : Hp} {D : Addr} {Q : Hp → Prop} {p p2 : TP} {ek ev : EM} {r2 : IM} {g g2 : TG} {vs vs2 : List Nat}
/-- where things stand between two puts -/
structure DAt (c : C) (ι1 β : List Addr) (H1 : Hp) (D : Addr) (σm : Lo) (σ : St) (ι : List Addr) (H : Hp) (mh : MH) (acc : List (MV × MV)) (kvs : List (Key × V)) : Prop where
  rel : Rel c ι (D :: β) H mh
  rl : RepL c ι (D :: β) H σm σ
  fr : Fr ι1 H1 ι H
  at_ : H D = some (.dK kvs)
  rep : RepKV c.K ι (D :: β) H acc kvs
  nd : nodK acc = true
theorem DAt.go {σm : Lo} {σ : St} {ι ι' : List Addr} {H H' : Hp} {mh mh' : MH} {acc : List (MV × MV)} {kvs : List (Key × V)} (d : DAt c ι1 β H1 D σm σ ι H mh acc kvs) (f : Fr ι H ι' H') (rel' : Rel c ι' (D :: β) H' mh') : DAt c ι1 β H1 D σm σ ι' H' mh' acc kvs :=
  ⟨rel', d.rl.mono f, d.fr.trans f, keep_D d.rel d.at_ f rel', d.rep.move f.mov, d.nd⟩
theorem DAt.other {σm σm' : Lo} {σ σ' : St} {ι : List Addr} {H : Hp} {mh : MH} {acc : List (MV × MV)} {kvs : List (Key × V)} (d : DAt c ι1 β H1 D σm σ ι H mh acc kvs) (rl : RepL c ι (D :: β) H σm' σ') : DAt c ι1 β H1 D σm' σ' ι H mh acc kvs := ⟨d.rel, rl, d.fr, d.at_, d.rep, d.nd⟩
/-- the put -/
theorem DAt.put {σm : Lo} {σ : St} {ι : List Addr} {H : Hp} {mh : MH} {acc : List (MV × MV)} {kvs : List (Key × V)} {k v : MV} {kk : Key} {x : V} (d : DAt c ι1 β H1 D σm σ ι H mh acc kvs) (hn : H1 D = none) (ek : mkey k = some kk) (rv : RepV c.K ι (D :: β) H v x) :
    DAt c ι1 β H1 D σm σ ι (upd H D (.dK (putK kvs kk x))) mh (putKV acc k v) (putK kvs kk x) :=
  ⟨d.rel.turn (fun _ _ z => nomatch z), d.rl.move Mov.turn, d.fr.updN hn, upd_same, (put_rep ek rv d.rep d.nd).move Mov.turn, nod_put k v acc d.nd⟩
theorem in_of {items2 : List MV} {chk2 : MH → Bool} {inv2 : List Addr → List Addr → Hp → Prop} {J2 : It} {σm : Lo} {σ : St} {ι : List Addr} {H : Hp} {mh : MH} {acc : List (MV × MV)} {kvs : List (Key × V)} {rest : List (MV × MV) → MH → R (List (MV × MV))}
    (S2 : Src c J2 items2 chk2 inv2) (rd2 : RdOk c vs2 g2 p2) (hn : H1 D = none) (d : DAt c ι1 β H1 D σm σ ι H mh acc kvs) (hi : inv ι (D :: β) H) (hi2 : inv2 ι (D :: β) H)
    (mono : ∀ ι β H ι' H', Fr ι H ι' H' → inv ι β H → inv ι' β H') (trn : ∀ ι β H D o, inv ι (D :: β) H → inv ι (D :: β) (upd H D o))
    (q : ∀ {r h}, dcIn chk2 p2 ek ev items2 (clrL vs2 σm) mh = .ok r h → PostD c ι1 β H1 D acc Q (rest r h)) (q0 : ∃ r h, dcIn chk2 p2 ek ev items2 (clrL vs2 σm) mh = .ok r h)
    (app : ∀ k v r h, rest ((k, v) :: r) h = match rest r h with | .ok r' h' => .ok ((k, v) :: r') h' | x => x)
    (Nx : Hp → Prop) (last : ∀ ι H mh acc kvs, DAt c ι1 β H1 D (clrL vs2 σm) (wipe σ vs2) ι H mh acc kvs → inv ι (D :: β) H → PostD c ι1 β H1 D acc Q (rest [] mh) → Nx H) :
    ∃ W : Nat → Nat → Hp → Prop, (∃ m, W 0 m H) ∧ ∀ i m H, W i m H → (J2.stop i H ∧ Nx H) ∨
      (J2.go i H ∧ ∃ N2 : Hp → Prop, (∀ H', N2 H' → ∃ m', m' < m ∧ W (i + 1) m' H') ∧ ∀ x H', J2.yld i H x H' → g2 x (wipe σ vs2) H' fun σ2 H2 => wipe σ2 vs2 = wipe σ vs2 ∧
        tE c W0 ek σ2 H2 fun y H3 => tE c W0 ev σ2 H3 fun z H4 => ∃ kvs k, y = kV k ∧ H4 D = some (.dK kvs) ∧ kvs.length < sizeLine ∧ N2 (upd H4 D (.dK (putK kvs k z)))) := by
  let St' : Nat → Hp → Prop := fun i H => ∃ ι mh acc kvs r h, DAt c ι1 β H1 D (clrL vs2 σm) (wipe σ vs2) ι H mh acc kvs ∧ inv ι (D :: β) H ∧ inv2 ι (D :: β) H ∧ dcIn chk2 p2 ek ev (items2.drop i) (clrL vs2 σm) mh = .ok r h ∧ PostD c ι1 β H1 D acc Q (rest r h)
  obtain ⟨r0, h0, e0⟩ := q0
  refine ⟨fun i m H => m = items2.length - i ∧ i ≤ items2.length ∧ St' i H, ⟨items2.length, by simp, Nat.zero_le _, ι, mh, acc, kvs, r0, h0, d.other (d.rl.clear vs2), hi, hi2, by simpa using e0, q e0⟩, ?_⟩
  rintro i m H ⟨rfl, hle, ι, mh, acc, kvs, r, h, d, hi, hi2, e, q⟩
  by_cases hlt : i < items2.length
  · rw [List.drop_eq_getElem_cons hlt] at e
    unfold dcIn at e
    split at e
    · rename_i hc
      obtain ⟨go, yl⟩ := S2.go ι (D :: β) H mh i items2[i] d.rel hi2 hc (List.getElem?_eq_getElem hlt)
      refine .inr ⟨go, St' (i + 1), fun H' hN => ⟨items2.length - (i + 1), by omega, rfl, hlt, hN⟩, fun x H' hy => ?_⟩
      obtain ⟨f1, rel1, rx⟩ := yl x H' hy
      cases ea : asP p2 items2[i] (clrL vs2 σm) with
      | none => simp only [ea] at e; cases e
      | some σ1 =>
        simp only [ea] at e
        have d1 := d.go f1 rel1
        refine rd2 ι (D :: β) H' mh items2[i] x _ _ σ1 _ rel1 d1.rl rx ea fun σ' rl' hw => ⟨hw.trans (wipe_wipe σ vs2), ?_⟩
        refine ⟨ι, D :: β, mh, σ1, rel1, rl', ?_⟩
        cases eK : ek σ1 mh with
        | ok k h1 =>
          simp only [eK] at e
          intro ι2 H2 y f2 rel2 ry
          refine ⟨ι2, D :: β, h1, σ1, rel2, rl'.mono f2, ?_⟩
          cases eV : ev σ1 h1 with
          | ok v h2 =>
            simp only [eV] at e
            intro ι3 H3 z f3 rel3 rz
            cases eR : dcIn chk2 p2 ek ev (items2.drop (i + 1)) (clrL vs2 σm) h2 with
            | ok r' h3 =>
              simp only [eR] at e
              injection e with e1 e2
              subst e1 e2
              rw [app] at q
              cases eRest : rest r' h3 with
              | ok r'' h4 =>
                simp only [eRest] at q
                obtain ⟨hk, hl, q⟩ := PostD.step q
                have f23 := f2.trans f3
                have d3 := d1.go f23 rel3
                obtain ⟨kk, ekk⟩ := Option.isSome_iff_exists.mp hk
                have yk := mkey_rep ekk ry
                refine ⟨kvs, kk, yk, d3.at_, by rw [← d3.rep.length, sz_eq]; exact hl, ?_⟩
                refine ⟨ι3, h2, putKV acc k v, putK kvs kk z, r', h3, d3.put hn ekk rz, trn _ _ _ _ _ (mono _ _ _ _ _ (f1.trans f23) hi), S2.turn _ _ _ _ _ (S2.mono _ _ _ _ _ (f1.trans f23) hi2), eR, by rw [eRest]; exact q⟩
              | ex a b => simp only [eRest] at q; exact q.elim
              | bad => simp only [eRest] at q; exact q.elim
            | ex a b => simp only [eR] at e; cases e
            | bad => simp only [eR] at e; cases e
          | ex a b => simp only [eV] at e; cases e
          | bad => simp only [eV] at e; cases e
        | ex a b => simp only [eK] at e; cases e
        | bad => simp only [eK] at e; cases e
    · cases e
  · have ei : i = items2.length := by omega
    subst ei
    rw [List.drop_length] at e
    unfold dcIn at e
    split at e
    · rename_i hc
      injection e with e1 e2
      subst e1 e2
      exact .inl ⟨S2.stop ι (D :: β) H mh d.rel hi2 hc, last ι H mh acc kvs d hi q⟩
    · cases e
/-- how the dict that was built is handed on -/
noncomputable def FinD (c : C) (fin : List (MV × MV) → MH → R MV) : Prop := ∀ ι1 β H1 mh0 D ι' H' l kvs h' Q W, Rel c ι1 β H1 mh0 → H1 D = none → Fr ι1 H1 ι' H' → Rel c ι' (D :: β) H' h' → H' D = some (.dK kvs) → RepKV c.K ι' (D :: β) H' l kvs → nodK l = true → Post c ι1 β H1 (RV c) Q W (fin l h') → Q (.ref D) H'
@[simp] noncomputable def finDV (l : List (MV × MV)) (h : MH) : R MV := .ok (.dv (l.map (·.1)) (l.map (·.2))) h
@[simp] noncomputable def finDR (l : List (MV × MV)) (h : MH) : R MV := .ok (.ref h.length) (h ++ [.dct l])
theorem RepKV.keys {K : PySem.W.Frag} {ι β : List Addr} {H : Hp} : ∀ {kvs : List (MV × MV)} {l : List (Key × V)}, RepKV K ι β H kvs l → RepKs (kvs.map (·.1)) (l.map (·.1)) ∧ RepVs K ι β H (kvs.map (·.2)) (l.map (·.2))
  | [], l, h => by
    have h : l = [] := h
    subst h
    exact ⟨rfl, .nil⟩
  | (k, m) :: r, l, h => by
    obtain ⟨k', v, r', rfl, e, rv, t⟩ := h
    obtain ⟨a, b⟩ := RepKV.keys t
    exact ⟨⟨k', r'.map (·.1), rfl, e, a⟩, .cons rv b⟩
theorem finD_R : FinD c finDR := fun ι1 β H1 mh0 D ι' H' l kvs h' Q W rel0 hD f rel hD' rv nd p => by
  have nb := nban rel0 hD
  obtain ⟨_, _, nD, _⟩ := rel.ban D List.mem_cons_self
  refine p (ι' ++ [D]) H' (.ref D) ⟨?_, f.keep, fun a z n => ?_, f.frz⟩ (rel.own nb ⟨kvs, hD', rv.move Mov.own⟩) ?_
  · obtain ⟨t, rfl⟩ := f.pre
    exact ⟨t ++ [D], by simp⟩
  · rcases List.mem_append.mp z with z | z
    · exact f.news a z n
    · have : a = D := by simpa using z
      rw [this]; exact hD
  · unfold RepV
    refine ⟨D, rfl, ?_⟩
    rw [rel.len, List.getElem?_append_right (Nat.le_refl _)]
    simp
end
end MP
namespace MP
open PySem PySem.Spec PyProof.Rows L2
section
variable {c : C} {X : Cx} {W : WX}
noncomputable def m2D (f : MV → MV → MH → R MV) (ra rb : EM) : EM := fun σ h => bindR (ra σ h) fun a h1 => if isDk a h1 = true then bindR (rb σ h1) fun b h2 => f a b h2 else .bad
noncomputable def mDGet1 (a b : MV) (h : MH) : R MV := match asD a h with
  | some kvs => match mkey b with
    | some _ => .ok ((lookKV kvs b).getD .non) h
    | none => .bad
  | none => .bad
theorem isD_of {v : MV} {h : MH} {ι β : List Addr} {H : Hp} {x : V} (e : isDk v h = true) (rel : Rel c ι β H h) (rv : RepV c.K ι β H v x) : ∃ a, x = .ref a ∧ IsD H a := by
  unfold isDk at e
  obtain ⟨kvs, ek⟩ := Option.isSome_iff_exists.mp e
  obtain ⟨a, l, o, rfl, ho, iv, _⟩ := asD_rep ek rel rv
  refine ⟨a, rfl, .inl ⟨l, ?_⟩⟩
  rcases iv with rfl | ⟨od, rfl⟩
  · exact .inl ho
  · exact .inr ⟨od, ho⟩
theorem e_dget1 {o e : Expr} {ro re : EM} {apos cpos : Pos} (hu : X.A.units + 1 < cLine) (ho : PE X o (tE c W ro)) (he : PE X e (tE c W re)) (m : M1 X o "get" apos e cpos) : PE X (.Call (.Attribute o "get" apos) [e] [] cpos) (tE c W (m2D mDGet1 ro re)) :=
  (pe_dget1 hu ho he m).wk fun σ H Q ⟨ι, β, mh, σm, rel, rl, p⟩ => by
    refine (run1 rel rl p).mono fun x H1 ⟨ι1, mh1, v, f1, rel1, rl1, rv, p1⟩ => ?_
    split at p1
    · rename_i ed
      obtain ⟨a, rfl, isd⟩ := isD_of ed rel1 rv
      refine ⟨a, rfl, isd, ?_⟩
      refine (run1 rel1 rl1 p1).mono fun y H2 ⟨ι2, mh2, b, f2, rel2, rl2, rb, p2⟩ => ?_
      unfold mDGet1 at p2
      cases ek : asD v mh2 with
      | none => simp only [ek] at p2; exact p2.elim
      | some kvs =>
        simp only [ek] at p2
        cases eb : mkey b with
        | none => simp only [eb] at p2; exact p2.elim
        | some kk =>
          simp only [eb] at p2
          obtain ⟨a', l, ob, ea, hob, iv, rk⟩ := asD_rep ek rel2 (rv.mono f2)
          cases ea
          have := mkey_rep eb rb
          subst this
          refine ⟨valV l kk, dget_of hob iv kk, ?_⟩
          obtain ⟨i1, i2⟩ := look_rep eb rk
          cases el : lookKV kvs b with
          | none =>
            rw [el] at p2
            rw [i2 el]
            exact p2 ι2 H2 .non .refl rel2 (rnon _ _ _)
          | some w =>
            rw [el] at p2
            obtain ⟨vv, e1, rw'⟩ := i1 w el
            rw [e1]
            exact p2 ι2 H2 vv .refl rel2 rw'
    · exact p1.elim
theorem drop_rep {ι β : List Addr} {H : Hp} {y : MV} {b : Key} (hy : mkey y = some b) : ∀ {kvs : List (MV × MV)} {l : List (Key × V)}, RepKV c.K ι β H kvs l → nodK kvs = true → RepKV c.K ι β H (dropKV kvs y) (dropK l b)
  | [], l, h, _ => by
    have h : l = [] := h
    subst h
    exact rfl
  | (k, m) :: r, l, h, nd => by
    obtain ⟨k', v, r', rfl, ek, q, t⟩ := h
    have nd0 := nd
    unfold nodK at nd
    rw [Bool.and_eq_true] at nd
    have eb := mkey_beq ek hy
    unfold dropKV
    rw [eb]
    by_cases z : k' = b
    · subst z
      rw [if_pos (by simp)]
      have no : valV r' k' = none := by
        have := (look_rep ek t).2 (by simpa using nd.1)
        exact this
      rw [dropK_pos rfl, dropK_no (valV_not no)]
      exact t
    · rw [if_neg (by simp [z]), dropK_neg z]
      exact ⟨k', v, _, rfl, ek, q, drop_rep hy t nd.2⟩
noncomputable def mDPop (a b : MV) (h : MH) : R MV := match a with
  | .ref n => match h[n]? with
    | some (.dct kvs) => match mkey b, lookKV kvs b with
      | some _, some v => if nodK kvs = true then .ok v (setH h n (.dct (dropKV kvs b))) else .bad
      | _, _ => .bad
    | _ => .bad
  | _ => .bad
theorem e_dpop1 {o e : Expr} {ro re : EM} {apos cpos : Pos} (ho : PE X o (tE c W ro)) (he : PE X e (tE c W re)) (m : M1 X o "pop" apos e cpos) : PE X (.Call (.Attribute o "pop" apos) [e] [] cpos) (tE c W (m2D mDPop ro re)) :=
  (pe_dpop1 ho he m).wk fun σ H Q ⟨ι, β, mh, σm, rel, rl, p⟩ => by
    refine (run1 rel rl p).mono fun x H1 ⟨ι1, mh1, v, f1, rel1, rl1, rv, p1⟩ => ?_
    split at p1
    · rename_i ed
      obtain ⟨a, rfl, isd⟩ := isD_of ed rel1 rv
      refine ⟨a, rfl, isd, ?_⟩
      refine (run1 rel1 rl1 p1).mono fun y H2 ⟨ι2, mh2, b, f2, rel2, rl2, rb, p2⟩ => ?_
      unfold mDPop at p2
      split at p2
      · rename_i n
        split at p2
        · rename_i kvs eo
          split at p2
          · rename_i kk w ekk ew
            split at p2
            · rename_i nd
              have rv2 := rv.mono f2
              unfold RepV at rv2
              obtain ⟨a', ea', ea⟩ := rv2
              cases ea'
              obtain ⟨o2, e2, ro'⟩ := rel2.at ea
              rw [eo] at e2; cases e2
              obtain ⟨kl, hb, rk⟩ := ro'
              have := mkey_rep ekk rb
              subst this
              obtain ⟨vv, e1, rw'⟩ := (look_rep ekk rk).1 w ew
              refine ⟨kl, kk, vv, hb, rfl, e1, ?_⟩
              have nf : ∀ o u, H2 a ≠ some (.frz o u) := fun o u z => by rw [hb] at z; cases z
              have f := Fr.put (o := .dK (dropK kl kk)) ea nf
              exact p2 ι2 _ _ f (rel2.put ea nf ⟨_, upd_same, (drop_rep ekk rk nd).move f.mov⟩) (rw'.mono f)
            · exact p2.elim
          · exact p2.elim
        · exact p2.elim
      · exact p2.elim
    · exact p1.elim
end
end MP
namespace MP
open PySem PySem.Spec PyProof.Rows L2
section
variable {c : C} {X : Cx} {W : WX}
noncomputable def flatM : MV → Option V
  | .non => some .non
  | .bl b => some (.bl b)
  | .int i => some (.int i)
  | .str x => some (.str x)
  | _ => none
theorem flat_rep {ι β : List Addr} {H : Hp} {m : MV} {x v : V} (e : flatM m = some x) (r : RepV c.K ι β H m v) : v = x ∧ flatV x = true := by
  cases m <;> simp only [flatM, Option.some.injEq, reduceCtorEq] at e <;> subst e <;> unfold RepV at r <;> exact ⟨r, rfl⟩
theorem flats_rep {ι β : List Addr} {H : Hp} : ∀ {l : List MV} {xs vs : List V}, mapO flatM l = some xs → RepVs c.K ι β H l vs → vs = xs ∧ xs.all flatV = true
  | [], xs, vs, e, r => by
    cases e
    exact ⟨r.nil_iff, rfl⟩
  | m :: l, xs, vs, e, r => by
    obtain ⟨v, vr, rfl, q, t⟩ := r
    unfold mapO at e
    cases e1 : flatM m with
    | none => simp only [e1] at e; cases e
    | some x =>
      simp only [e1] at e
      cases e2 : mapO flatM l with
      | none => simp only [e2] at e; cases e
      | some xr =>
        simp only [e2, Option.some.injEq] at e
        subst e
        obtain ⟨a1, a2⟩ := flat_rep e1 q
        obtain ⟨b1, b2⟩ := flats_rep e2 t
        subst a1 b1
        exact ⟨rfl, by rw [List.all_cons, a2, b2]; rfl⟩
noncomputable def mInSN (neg : Bool) (a b : MV) (h : MH) : R MV := match flatM a, b with
  | some x, .tup l => match mapO flatM l with
    | some xs => .ok (.bl (if neg then !inV x xs else inV x xs)) h
    | none => .bad
  | _, _ => .bad
noncomputable def mInS := mInSN false
theorem p_inSN (neg : Bool) : P2 c (rIn c.K neg) (mInSN neg) := fun ι β H mh a b x y Q W rel ra rb p => by
  unfold mInSN at p
  split at p
  · rename_i x' l ex
    cases el : mapO flatM l with
    | none => simp only [el] at p; exact p.elim
    | some xs =>
      simp only [el] at p
      obtain ⟨rfl, fx⟩ := flat_rep ex ra
      unfold RepV at rb
      obtain ⟨t, vs, rfl, q, rvs⟩ := rb
      obtain ⟨rfl, fxs⟩ := flats_rep el rvs
      refine ⟨t, vs, rfl, .inr ?_, fx, fxs, p ι H _ .refl rel (rbl _ _ _)⟩
      rcases q with ⟨q, _, _⟩ | q
      · exact .inl (.inl q)
      · exact .inr q.1
  · exact p.elim
theorem p_inS : P2 c (rIn c.K false) mInS := p_inSN false
/-- a dict that is new at p -/
noncomputable def FinND (c : C) (fin : List (MV × MV) → MH → R MV) : Prop := ∀ ι β H mh l kl p Q W, Rel c ι β H mh → RepKV c.K ι β H l kl → H p = none → Post c ι β H (RV c) Q W (fin l mh) → Q (.ref p) (upd H p (.dK kl))
theorem finND_V : FinND c finDV := fun ι β H mh l kl p Q W rel r hp q => by
  have f : Fr ι H ι (upd H p (.dK kl)) := Fr.lay rel hp
  obtain ⟨a, b⟩ := (r.move f.mov).keys
  refine q ι _ (.ref p) f (rel.lay hp) ?_
  unfold RepV
  exact ⟨p, kl, rfl, ⟨⟨_, upd_same, .inl rfl⟩, rel.fresh hp, nban rel hp⟩, a, b⟩
end
end MP
namespace MP
open PySem PySem.Spec PyProof.Rows L2
section
variable {X : Cx} {c : C} {W : WX}
theorem mapO_get {α γ : Type} {f : α → Option γ} : ∀ {l : List α} {r : List γ}, mapO f l = some r → l.length = r.length ∧ ∀ (i : Nat) b, r[i]? = some b → ∃ a, l[i]? = some a ∧ f a = some b
  | [], r, e => by
    cases e
    exact ⟨rfl, fun i b e => by simp at e⟩
  | a :: l, r, e => by
    unfold mapO at e
    cases e1 : f a with
    | none => simp only [e1] at e; cases e
    | some b0 =>
      simp only [e1] at e
      cases e2 : mapO f l with
      | none => simp only [e2] at e; cases e
      | some r0 =>
        simp only [e2, Option.some.injEq] at e
        subst e
        obtain ⟨h1, h2⟩ := mapO_get e2
        refine ⟨by simp [h1], fun i b e => ?_⟩
        cases i with
        | zero =>
          simp only [List.getElem?_cons_zero, Option.some.injEq] at e
          subst e
          exact ⟨a, rfl, e1⟩
        | succ i =>
          rw [List.getElem?_cons_succ] at e
          obtain ⟨x, q1, q2⟩ := h2 i b e
          exact ⟨x, by rw [List.getElem?_cons_succ]; exact q1, q2⟩
end
/-- what each of ks comes to in ls -/
inductive HitsV (K : PySem.W.Frag) (H : Hp) (ls : List (Key × V)) : List (Key × V) → Bool → Prop
  | nil : HitsV K H ls [] true
  | miss {k : Key} {v : V} {r : List (Key × V)} : valV ls k = none → HitsV K H ls ((k, v) :: r) false
  | hit {k : Key} {v u : V} {r : List (Key × V)} {d e : PyData} {b : Bool} : valV ls k = some u → Dp K H v d → Dp K H u e → SeqAt.shaped d = true → SeqAt.shaped e = true → HitsV K H ls r b → HitsV K H ls ((k, v) :: r) (PyData.eqv d e && b)
noncomputable def rEqDK (K : PySem.W.Frag) (neg : Bool) : R2 := fun x y H Q => ∃ a b ks ls r, x = .ref a ∧ y = .ref b ∧ Rd H a (.dK ks) ∧ Rd H b (.dK ls) ∧ (ks.length = ls.length → HitsV K H ls ks r) ∧ Q (.bl (if neg then !(decide (ks.length = ls.length) && r) else (decide (ks.length = ls.length) && r))) H
section
variable {X : Cx} {c : C}
theorem shaped_lay {d : PyData} (h : SeqAt.shaped d = true) : d.canLay0 = true ∧ d.depth ≤ 64 := by
  unfold SeqAt.shaped at h
  rw [Bool.and_eq_true] at h
  exact ⟨h.1, by simpa using h.2⟩
theorem hits_at {pins : List (Addr × Obj)} {σ : St} {H : Hp} {s : Shared} (I : Inv X pins σ H s) {A : Around} (hu : A.units + 64 < cLine) {ls : List (Key × V)} {vb : List (Key × Value)} (rb : KV ls vb) : ∀ {ks : List (Key × V)} {r : Bool} {va : List (Key × Value)}, HitsV X.K H ls ks r → KV ks va → PySem.W.KeqHits A s vb va r := by
  intro ks r va h
  induction h generalizing va with
  | nil => intro ra; cases ra; exact .nil
  | @miss k v r' hn =>
    intro ra
    cases ra with
    | @cons p q ps qs h t =>
      obtain ⟨key, w⟩ := q
      obtain ⟨h1, h2⟩ := h
      have h1 : k = key := h1
      subst h1
      have rr : RelO (valV ls k) (valueAt vb k) := rb.val k
      rw [hn] at rr
      refine .miss ?_
      cases e : valueAt vb k with
      | none => rfl
      | some y => rw [e] at rr; exact rr.elim
  | @hit k v u r' d e b hn dv du sd se hr ih =>
    intro ra
    cases ra with
    | @cons p q ps qs h t =>
      obtain ⟨key, w⟩ := q
      obtain ⟨h1, h2⟩ := h
      have h1 : k = key := h1
      subst h1
      have rr : RelO (some u) (valueAt vb k) := by rw [← hn]; exact rb.val k
      obtain ⟨y, hy, ry⟩ := rr.some_of
      obtain ⟨as, r1⟩ := Dp.reads I d v w dv h2
      obtain ⟨bs, r2⟩ := Dp.reads I e u y du ry
      obtain ⟨c1, d1⟩ := shaped_lay sd
      obtain ⟨c2, d2⟩ := shaped_lay se
      exact .hit hy (SeqAt.eqAt_reads d e A s w y as bs r1 r2 c1 c2 (by omega)) (ih t)
theorem op_eqDK (hu : X.A.units + 65 < cLine) : OpR X (compareOp .Eq) (rEqDK X.K false) := by
  intro pins s σ H x y v u Q I rx ry h
  obtain ⟨a, b, ks, ls, r, rfl, rfl, ea, eb, hits, q⟩ := h
  obtain rfl : v = Value.ref a := rx
  obtain rfl : u = Value.ref b := ry
  obtain ⟨_, ya, va, ra, da⟩ := dk_rd I.hok ea
  obtain ⟨_, yb, vb, rb, db⟩ := dk_rd I.hok eb
  have hl : (va.length == vb.length) = decide (ks.length = ls.length) := by rw [← ra.length, ← rb.length]; rfl
  refine PySem.W.keq_eq (knd := mixKind X.prog X.w) (r := r) ya yb da db (by omega) (fun e => hits_at I (by show X.A.units + 1 + 64 < cLine; omega) rb (hits (by rw [ra.length, rb.length]; exact e)) ra) ⟨.bl _, H, I, rfl, ?_⟩
  rw [hl]; exact q
theorem op_neDK (hu : X.A.units + 65 < cLine) : OpR X (compareOp .NotEq) (rEqDK X.K true) := by
  intro pins s σ H x y v u Q I rx ry h
  obtain ⟨a, b, ks, ls, r, rfl, rfl, ea, eb, hits, q⟩ := h
  obtain rfl : v = Value.ref a := rx
  obtain rfl : u = Value.ref b := ry
  obtain ⟨_, ya, va, ra, da⟩ := dk_rd I.hok ea
  obtain ⟨_, yb, vb, rb, db⟩ := dk_rd I.hok eb
  have hl : (va.length == vb.length) = decide (ks.length = ls.length) := by rw [← ra.length, ← rb.length]; rfl
  refine PySem.W.keq_ne (knd := mixKind X.prog X.w) (r := r) ya yb da db (by omega) (fun e => hits_at I (by show X.A.units + 1 + 64 < cLine; omega) rb (hits (by rw [ra.length, rb.length]; exact e)) ra) ⟨.bl _, H, I, rfl, ?_⟩
  rw [hl]; exact q
/-- the mirror's look -/
noncomputable def hitsM (h : MH) (ls : List (MV × MV)) : List (MV × MV) → Option Bool
  | [] => some true
  | (k, v) :: r => match mkey k with
    | none => none
    | some _ => match lookKV ls k with
      | none => some false
      | some u => match toD h 12 v, toD h 12 u with
        | some d, some e => if (SeqAt.shaped d && SeqAt.shaped e) = true then match hitsM h ls r with
            | some b => some (PyData.eqv d e && b)
            | none => none
          else none
        | _, _ => none
noncomputable def eqDM (neg : Bool) (a b : MV) (h : MH) : R MV := match asD a h, asD b h with
  | some ks, some ls => if ks.length = ls.length then match hitsM h ls ks with
      | some r => .ok (.bl (if neg then !r else r)) h
      | none => .bad
    else .ok (.bl neg) h
  | _, _ => .bad
theorem hits_rep {ι β : List Addr} {H : Hp} {mh : MH} (rel : Rel c ι β H mh) {ls : List (MV × MV)} {lv : List (Key × V)} (rl : RepKV c.K ι β H ls lv) : ∀ {ks : List (MV × MV)} {kv : List (Key × V)} {r : Bool}, hitsM mh ls ks = some r → RepKV c.K ι β H ks kv → HitsV c.K H lv kv r
  | [], kv, r, e, h => by
    have h : kv = [] := h
    subst h
    cases e
    exact .nil
  | (k, m) :: ks, kv, r, e, h => by
    obtain ⟨k', v, kv', rfl, ek, rv, t⟩ := h
    unfold hitsM at e
    simp only [ek] at e
    obtain ⟨i1, i2⟩ := look_rep ek rl
    cases el : lookKV ls k with
    | none =>
      simp only [el, Option.some.injEq] at e
      subst e
      exact .miss (i2 el)
    | some u =>
      simp only [el] at e
      obtain ⟨uv, e1, ru⟩ := i1 u el
      cases ed : toD mh 12 m with
      | none => simp only [ed] at e; cases e
      | some d =>
        cases ee : toD mh 12 u with
        | none => simp only [ed, ee] at e; cases e
        | some d2 =>
          simp only [ed, ee] at e
          split at e
          · rename_i sh
            rw [Bool.and_eq_true] at sh
            cases eh : hitsM mh ls ks with
            | none => simp only [eh] at e; cases e
            | some b =>
              simp only [eh, Option.some.injEq] at e
              subst e
              exact .hit e1 (toD_dp rel _ _ _ _ ed rv) (toD_dp rel _ _ _ _ ee ru) sh.1 sh.2 (hits_rep rel rl eh t)
          · cases e
theorem rd_of_dv {H : Hp} {a : Addr} {o : HO} {l : List (Key × V)} (e : H a = some o) (iv : IsDV o l) : Rd H a (.dK l) := by
  rcases iv with rfl | ⟨od, rfl⟩
  · exact .inl e
  · exact .inr ⟨od, e⟩
theorem p_eqDM (neg : Bool) : P2 c (rEqDK c.K neg) (eqDM neg) := fun ι β H mh a b x y Q W rel ra rb p => by
  unfold eqDM at p
  cases ea : asD a mh with
  | none => simp only [ea] at p; exact p.elim
  | some ks =>
    cases eb : asD b mh with
    | none => simp only [ea, eb] at p; exact p.elim
    | some ls =>
      simp only [ea, eb] at p
      obtain ⟨a1, l1, o1, rfl, h1, v1, r1⟩ := asD_rep ea rel ra
      obtain ⟨a2, l2, o2, rfl, h2, v2, r2⟩ := asD_rep eb rel rb
      have len1 := r1.length
      have len2 := r2.length
      by_cases hl : ks.length = ls.length
      · rw [if_pos hl] at p
        cases eh : hitsM mh ls ks with
        | none => simp only [eh] at p; exact p.elim
        | some r =>
          simp only [eh] at p
          refine ⟨a1, a2, l1, l2, r, rfl, rfl, rd_of_dv h1 v1, rd_of_dv h2 v2, fun _ => hits_rep rel r2 eh r1, ?_⟩
          have e : decide (l1.length = l2.length) = true := decide_eq_true (by omega)
          rw [e, Bool.true_and]
          exact p ι H _ .refl rel (rbl _ _ _)
      · rw [if_neg hl] at p
        refine ⟨a1, a2, l1, l2, true, rfl, rfl, rd_of_dv h1 v1, rd_of_dv h2 v2, fun e => absurd (by omega) hl, ?_⟩
        have e : decide (l1.length = l2.length) = false := decide_eq_false (by omega)
        rw [e, Bool.false_and]
        have e2 : (if neg = true then !false else false) = neg := by cases neg <;> rfl
        rw [e2]
        exact p ι H _ .refl rel (rbl _ _ _)
noncomputable def eqSt (neg : Bool) (a b : MV) (h : MH) : R MV := match a, b with
  | .str x, .str y => .ok (.bl (if neg then !decide (x = y) else decide (x = y))) h
  | _, _ => .bad
noncomputable def orB {α : Type} (x y : R α) : R α := match x with
  | .bad => y
  | z => z
@[simp] theorem orB_ok {α : Type} {a : α} {h : MH} {y : R α} : orB (.ok a h) y = .ok a h := rfl
noncomputable def mEqA (a b : MV) (h : MH) : R MV := orB (mEq a b h) (orB (eqSt false a b h) (eqDM false a b h))
noncomputable def mNeA (a b : MV) (h : MH) : R MV := orB (mNe a b h) (orB (eqSt true a b h) (eqDM true a b h))
theorem mEqA_ok {a b v : MV} {h h' : MH} (e : mEq a b h = .ok v h') : mEqA a b h = .ok v h' := by unfold mEqA; rw [e]; rfl
theorem mNeA_ok {a b v : MV} {h h' : MH} (e : mNe a b h = .ok v h') : mNeA a b h = .ok v h' := by unfold mNeA; rw [e]; rfl
@[simp] theorem eqA_int (i j : Int) (h : MH) : mEqA (.int i) (.int j) h = .ok (.bl (decide (i = j))) h := mEqA_ok (eq_int i j h)
@[simp] theorem neA_int (i j : Int) (h : MH) : mNeA (.int i) (.int j) h = .ok (.bl (!decide (i = j))) h := mNeA_ok (ne_int i j h)
noncomputable def rEqAll (K : PySem.W.Frag) : R2 := fun x y H Q => rEqD K x y H Q ∨ rEq x y H Q ∨ rEqDK K false x y H Q
noncomputable def rNeAll (K : PySem.W.Frag) : R2 := fun x y H Q => rNeD K x y H Q ∨ rNe x y H Q ∨ rEqDK K true x y H Q
theorem op_eqX (hu : X.A.units + 65 < cLine) : OpR X (compareOp .Eq) (rEqAll X.K) := (op_eqD (by omega)).or (op_eq.or (op_eqDK hu))
theorem op_neX (hu : X.A.units + 65 < cLine) : OpR X (compareOp .NotEq) (rNeAll X.K) := (op_neD (by omega)).or (op_ne.or (op_neDK hu))
theorem P2.orB {r1 r2 : R2} {f g : MV → MV → MH → R MV} (h1 : P2 c r1 f) (h2 : P2 c r2 g) : P2 c (fun x y H Q => r1 x y H Q ∨ r2 x y H Q) (fun a b h => MP.orB (f a b h) (g a b h)) := fun ι β H mh a b x y Q W rel ra rb p => by
  have p : Post c ι β H (RV c) Q W (MP.orB (f a b mh) (g a b mh)) := p
  cases e : f a b mh with
  | ok v h' => rw [e] at p; exact .inl (h1 ι β H mh a b x y Q W rel ra rb (by rw [e]; exact p))
  | ex v h' => rw [e] at p; exact .inl (h1 ι β H mh a b x y Q W rel ra rb (by rw [e]; exact p))
  | bad => rw [e] at p; exact .inr (h2 ι β H mh a b x y Q W rel ra rb p)
theorem p_eqSt : P2 c rEq (eqSt false) := fun ι β H mh a b x y Q W rel ra rb p => by
  unfold eqSt at p
  split at p
  · rename_i u v
    rw [rs ra, rs rb]
    refine ⟨rfl, ?_⟩
    have e : decide (V.str u = V.str v) = decide (u = v) := by
      by_cases z : u = v
      · subst z; simp
      · simp [z]
    rw [e]
    exact p ι H _ .refl rel (rbl _ _ _)
  · exact p.elim
theorem p_neSt : P2 c rNe (eqSt true) := fun ι β H mh a b x y Q W rel ra rb p => by
  unfold eqSt at p
  split at p
  · rename_i u v
    rw [rs ra, rs rb]
    refine ⟨rfl, ?_⟩
    have e : decide (V.str u = V.str v) = decide (u = v) := by
      by_cases z : u = v
      · subst z; simp
      · simp [z]
    rw [e]
    exact p ι H _ .refl rel (rbl _ _ _)
  · exact p.elim
theorem p_eqX : P2 c (rEqAll c.K) mEqA := p_eq.orB (p_eqSt.orB (p_eqDM false))
theorem p_neX : P2 c (rNeAll c.K) mNeA := p_ne.orB (p_neSt.orB (p_eqDM true))
end
end MP
namespace MP
open PySem PySem.Spec PyProof.Rows L2
section
open PySem.SeqAt
open AutoSeq1 (wpAny_loadPart')
open MeetsSeq MeetsSeq2 MeetsSeq3 SeqRoads2
variable {prog : Program} {w : World}
theorem tuple_neIn (l b : Addr) (items items2 : Array Value) (n n2 : Nat) (dd dd2 : Option Addr) (sl sl2 : Array (Option Value)) (e : Nat → Bool) :
    MeetsIn prog w (Builtin.«tuple.__ne__» ⟨[.ref l, .ref b], []⟩)
      (fun A R s => s.heap.get? l = some { cls := .type "tuple", dict := dd, data := .seq items n, slots := sl } ∧ s.heap.get? b = some { cls := .type "tuple", dict := dd2, data := .seq items2 n2, slots := sl2 } ∧
        (∀ j (h1 : j < items.size) (h2 : j < items2.size), EqIn prog w A.in1 s items[j] items2[j] (e j)) ∧
        R (.ok (.ret (.bool (!((List.range (min items.size items2.size)).all e && items.size == items2.size))))) s) :=
  .of_wp fun A R s h => by
    obtain ⟨hp, g, d, tk, os⟩ := s; obtain ⟨hl, hb, he, h⟩ := h
    have f2 := AutoSeq1.sub_tuple_tuple
    have hZ : (items.toList.zip items2.toList).length = min items.size items2.size := by simp
    wp_walk using wpAny_loadPart' hl, wpAny_loadPart' hb, wpAny_forIn_list _ (fun rest b s' => b.1 = none ∧ s' = ⟨hp, g, d, tk, os⟩ ∧ ∃ i, rest = (items.toList.zip items2.toList).drop i ∧
      R (.ok (.ret (.bool (!(((List.range (min items.size items2.size)).drop i).all e && items.size == items2.size))))) ⟨hp, g, d, tk, os⟩) _
    case turn =>
      rintro ⟨y, x⟩ rest b s' ⟨hb', rfl, i, hz, hR⟩
      have hlt : i < (items.toList.zip items2.toList).length := by
        rcases Nat.lt_or_ge i (items.toList.zip items2.toList).length with h' | h'
        · exact h'
        · rw [List.drop_of_length_le h'] at hz; cases hz
      have hm : i < min items.size items2.size := hZ ▸ hlt
      have h1 : i < items.size := Nat.lt_of_lt_of_le hm (Nat.min_le_left _ _)
      have h2 : i < items2.size := Nat.lt_of_lt_of_le hm (Nat.min_le_right _ _)
      rw [List.drop_eq_getElem_cons hlt] at hz
      injection hz with hyx hrest
      have hy : y = items[i] := by have := congrArg Prod.fst hyx; simpa using this
      have hx : x = items2[i] := by have := congrArg Prod.snd hyx; simpa using this
      subst hy hx
      have hd : (List.range (min items.size items2.size)).drop i = i :: (List.range (min items.size items2.size)).drop (i + 1) := by simp [List.drop_eq_getElem_cons, hm]
      rw [hd, List.all_cons] at hR
      refine wpAny_bind (he i h1 h2 _ _ ?_)
      cases hy : e i with
      | true =>
        rw [hy] at hR
        wp_walk
        exact ⟨rfl, rfl, i + 1, hrest, by simpa using hR⟩
      | false =>
        rw [hy] at hR
        wp_walk
        exact ⟨_, rfl, by simpa using hR⟩
    case fin =>
      rintro ⟨b1, b2⟩ s' ⟨hb', rfl, i, hz, hR⟩
      simp only at hb'
      subst hb'
      have hge : min items.size items2.size ≤ i := by
        rcases Nat.lt_or_ge i (items.toList.zip items2.toList).length with h' | h'
        · rw [List.drop_eq_getElem_cons h'] at hz; cases hz
        · exact hZ ▸ h'
      rw [List.drop_of_length_le (by simpa using hge)] at hR
      wp_walk
      exact ⟨_, rfl, by simpa [Builtin.Tuple.tupleCompareSizes, bne] using hR⟩
    case h =>
      exact ⟨rfl, rfl, 0, rfl, by simpa using h⟩
variable {A : Around} {s : Shared}
theorem rcNeIn_tuples {E : Value → Shared → Prop} {l b : Addr} {items items2 : Array Value} {e : Nat → Bool} {Q : Value → Shared → Prop} (hl : s.heap.IsTuple l items) (hb : s.heap.IsTuple b items2) (hu : A.units < cLine)
    (he : ∀ j (h1 : j < items.size) (h2 : j < items2.size), EqIn prog w A.in1 s items[j] items2[j] (e j)) (h : Q (.bool (!((List.range (min items.size items2.size)).all e && items.size == items2.size))) s) :
    wpAny (model prog w) A (richCompare .NotEq (.ref l) (.ref b)) Q E s := by
  obtain ⟨⟨cls, dd, data, sl⟩, ho, hc, n, hd⟩ := id hl
  obtain ⟨⟨cls2, dd2, data2, sl2⟩, ho2, hc2, n2, hd2⟩ := id hb
  simp only at hc hd hc2 hd2
  subst hc hd hc2 hd2
  exact wpAny_richCompare_same_room (T := "tuple") (op := .NotEq) ⟨_, ho, rfl⟩ ⟨_, ho2, rfl⟩ F.slot_tuple_ne (call_meetsIn F.slot_tuple_ne ⟨_, ho, rfl⟩ F.entry_tuple_ne (F.args_tuple_ne_2 _ _) (tuple_neIn l b items items2 n n2 dd dd2 sl sl2 e)
    ⟨ho, ho2, he, show Value.bool (!((List.range (min items.size items2.size)).all e && items.size == items2.size)) ≠ Value.notImplemented ∧ Q (.bool (!((List.range (min items.size items2.size)).all e && items.size == items2.size))) s from ⟨(fun x => nomatch x), h⟩⟩) hu
end
/-- two things within tuples, and whether they are equal -/
inductive EqPr (K : PySem.W.Frag) (H : Hp) : V → V → Bool → Prop
  | data {v u : V} {d e : PyData} : Dp K H v d → Dp K H u e → SeqAt.shaped d = true → SeqAt.shaped e = true → EqPr K H v u (PyData.eqv d e)
  | dict {a b : Addr} {ks ls : List (Key × V)} : Rd H a (.dK ks) → Rd H b (.dK ls) → ks.length = ls.length → HitsV K H ls ks true → EqPr K H (.ref a) (.ref b) true
inductive EqPrs (K : PySem.W.Frag) (H : Hp) : List V → List V → List Bool → Prop
  | nil : EqPrs K H [] [] []
  | cons {v u : V} {b : Bool} {vs us : List V} {bs : List Bool} : EqPr K H v u b → EqPrs K H vs us bs → EqPrs K H (v :: vs) (u :: us) (b :: bs)
theorem EqPrs.len {K : PySem.W.Frag} {H : Hp} {vs us : List V} {bs : List Bool} (h : EqPrs K H vs us bs) : vs.length = bs.length ∧ us.length = bs.length := by
  induction h with
  | nil => exact ⟨rfl, rfl⟩
  | cons _ _ ih => exact ⟨by rw [List.length_cons, List.length_cons, ih.1], by rw [List.length_cons, List.length_cons, ih.2]⟩
theorem EqPrs.at {K : PySem.W.Frag} {H : Hp} {vs us : List V} {bs : List Bool} (h : EqPrs K H vs us bs) : ∀ {j : Nat} {v u : V}, vs[j]? = some v → us[j]? = some u → EqPr K H v u (bs.getD j true) := by
  induction h with
  | nil => intro j v u e; simp at e
  | cons p _ ih =>
    intro j v u e1 e2
    cases j with
    | zero =>
      simp only [List.getElem?_cons_zero, Option.some.injEq] at e1 e2
      subst e1 e2
      exact p
    | succ j =>
      rw [List.getElem?_cons_succ] at e1 e2
      exact ih e1 e2
theorem vals_back' : ∀ {xs : List V} {us : List Value} {i : Nat} {u : Value}, Vals xs us → us[i]? = some u → ∃ x, xs[i]? = some x ∧ RelV x u
  | _, _, i, u, .nil, e => by simp at e
  | _, _, 0, u, .cons r _, e => by
    simp only [List.getElem?_cons_zero, Option.some.injEq] at e
    subst e
    exact ⟨_, rfl, r⟩
  | _, _, i + 1, u, .cons _ t, e => by
    rw [List.getElem?_cons_succ] at e
    obtain ⟨x, e1, r⟩ := vals_back' t e
    exact ⟨x, by rw [List.getElem?_cons_succ]; exact e1, r⟩
theorem all_range (bs : List Bool) : ((List.range bs.length).all fun j => bs.getD j true) = bs.all id := by
  rw [Bool.eq_iff_iff, List.all_eq_true, List.all_eq_true]
  constructor
  · intro h b hb
    obtain ⟨j, hj⟩ := List.mem_iff_getElem?.mp hb
    have lt := (List.getElem?_eq_some_iff.mp hj).1
    have := h j (List.mem_range.mpr lt)
    rw [List.getD_eq_getElem?_getD, hj] at this
    exact this
  · intro h j hj
    have lt := List.mem_range.mp hj
    rw [List.getD_eq_getElem?_getD, List.getElem?_eq_getElem lt]
    exact h _ (List.getElem_mem lt)
section
variable {X : Cx} {c : C}
theorem EqPr.inn {pins : List (Addr × Obj)} {σ : St} {H : Hp} {s : Shared} (I : Inv X pins σ H s) {A : Around} (hu : A.units + 65 < cLine) {x y : V} {b : Bool} (p : EqPr X.K H x y b) {v u : Value} (rx : RelV x v) (ry : RelV y u) : SeqAt.EqIn X.prog X.w A s v u b := by
  cases p with
  | data dv du sd se =>
    obtain ⟨as, r1⟩ := Dp.reads I _ _ v dv rx
    obtain ⟨bs, r2⟩ := Dp.reads I _ _ u du ry
    obtain ⟨c1, d1⟩ := shaped_lay sd
    obtain ⟨c2, d2⟩ := shaped_lay se
    exact SeqAt.EqAt.inModel (SeqAt.eqAt_reads _ _ A s v u as bs r1 r2 c1 c2 (by omega)) _ _
  | @dict a b ks ls ea eb hl hits =>
    obtain rfl : v = Value.ref a := rx
    obtain rfl : u = Value.ref b := ry
    by_cases z : a = b
    · subst z
      exact SeqAt.EqAt.inModel (SeqAt.EqAt.same _) _ _
    · obtain ⟨_, ya, va, ra, da⟩ := dk_rd I.hok ea
      obtain ⟨_, yb, vb, rb, db⟩ := dk_rd I.hok eb
      have hlv : (va.length == vb.length) = true := by rw [← ra.length, ← rb.length, hl]; simp
      exact SeqAt.EqIn.of_refs z fun E Q hq => PySem.W.keq_eq (knd := mixKind X.prog X.w) (r := true) ya yb da db (by omega) (fun _ => hits_at I (by show A.units + 1 + 64 < cLine; omega) rb hits ra) (by rw [hlv]; exact hq)
noncomputable def rEqT (K : PySem.W.Frag) (neg : Bool) : R2 := fun x y H Q => ∃ a b xs ys rs, x = .ref a ∧ y = .ref b ∧ SqT K H a xs ∧ SqT K H b ys ∧ EqPrs K H xs ys rs ∧ Q (.bl (if neg then !rs.all id else rs.all id)) H
theorem op_eqT (hu : X.A.units + 67 < cLine) : OpR X (compareOp .Eq) (rEqT X.K false) := by
  intro pins s σ H x y v u Q I rx ry h
  obtain ⟨a, b, xs, ys, rs, rfl, rfl, ea, eb, pr, q⟩ := h
  obtain rfl : v = Value.ref a := rx
  obtain rfl : u = Value.ref b := ry
  obtain ⟨ia, ra, ta, _⟩ := I.tuple ea
  obtain ⟨ib, rb, tb, _⟩ := I.tuple eb
  obtain ⟨l1, l2⟩ := pr.len
  have n1 : ia.length = rs.length := by rw [← ra.length, l1]
  have n2 : ib.length = rs.length := by rw [← rb.length, l2]
  refine PySem.SeqAt.rcIn_tuples (e := fun j => rs.getD j true) ta tb (by omega) (fun j h1 h2 => ?_) ?_
  · have h1' : j < ia.length := by simpa using h1
    have h2' : j < ib.length := by simpa using h2
    obtain ⟨xv, e1, r1⟩ := vals_back' ra (List.getElem?_eq_getElem h1')
    obtain ⟨yv, e2, r2⟩ := vals_back' rb (List.getElem?_eq_getElem h2')
    have := (pr.at e1 e2).inn I (A := X.A.in1) (by show X.A.units + 1 + 65 < cLine; omega) r1 r2
    simpa using this
  · have e : ((List.range (min ia.toArray.size ib.toArray.size)).all (fun j => rs.getD j true) && ia.toArray.size == ib.toArray.size) = rs.all id := by
      rw [List.size_toArray, List.size_toArray, n1, n2, Nat.min_self, all_range]; simp
    rw [e]
    exact ⟨.bl _, H, I, rfl, q⟩
theorem op_neT (hu : X.A.units + 67 < cLine) : OpR X (compareOp .NotEq) (rEqT X.K true) := by
  intro pins s σ H x y v u Q I rx ry h
  obtain ⟨a, b, xs, ys, rs, rfl, rfl, ea, eb, pr, q⟩ := h
  obtain rfl : v = Value.ref a := rx
  obtain rfl : u = Value.ref b := ry
  obtain ⟨ia, ra, ta, _⟩ := I.tuple ea
  obtain ⟨ib, rb, tb, _⟩ := I.tuple eb
  obtain ⟨l1, l2⟩ := pr.len
  have n1 : ia.length = rs.length := by rw [← ra.length, l1]
  have n2 : ib.length = rs.length := by rw [← rb.length, l2]
  refine rcNeIn_tuples (e := fun j => rs.getD j true) ta tb (by omega) (fun j h1 h2 => ?_) ?_
  · have h1' : j < ia.length := by simpa using h1
    have h2' : j < ib.length := by simpa using h2
    obtain ⟨xv, e1, r1⟩ := vals_back' ra (List.getElem?_eq_getElem h1')
    obtain ⟨yv, e2, r2⟩ := vals_back' rb (List.getElem?_eq_getElem h2')
    have := (pr.at e1 e2).inn I (A := X.A.in1) (by show X.A.units + 1 + 65 < cLine; omega) r1 r2
    simpa using this
  · have e : ((List.range (min ia.toArray.size ib.toArray.size)).all (fun j => rs.getD j true) && ia.toArray.size == ib.toArray.size) = rs.all id := by
      rw [List.size_toArray, List.size_toArray, n1, n2, Nat.min_self, all_range]; simp
    rw [e]
    exact ⟨.bl _, H, I, rfl, q⟩
noncomputable def eqPrM (h : MH) (a b : MV) : Option Bool := match toD h 12 a, toD h 12 b with
  | some d, some e => if (SeqAt.shaped d && SeqAt.shaped e) = true then some (PyData.eqv d e) else none
  | _, _ => match asD a h, asD b h with
    | some ks, some ls => if ks.length = ls.length then match hitsM h ls ks with
        | some true => some true
        | _ => none
      else none
    | _, _ => none
noncomputable def eqPrsM (h : MH) : List MV → List MV → Option (List Bool)
  | [], [] => some []
  | a :: l, b :: r => match eqPrM h a b with
    | none => none
    | some x => match eqPrsM h l r with
      | none => none
      | some bs => some (x :: bs)
  | _, _ => none
noncomputable def eqTM (neg : Bool) (a b : MV) (h : MH) : R MV := match a, b with
  | .tup l, .tup r => match eqPrsM h l r with
    | some rs => .ok (.bl (if neg then !rs.all id else rs.all id)) h
    | none => .bad
  | _, _ => .bad
theorem eqPr_rep {ι β : List Addr} {H : Hp} {mh : MH} (rel : Rel c ι β H mh) {a b : MV} {x y : V} {k : Bool} (e : eqPrM mh a b = some k) (ra : RepV c.K ι β H a x) (rb : RepV c.K ι β H b y) : EqPr c.K H x y k := by
  have dk : (match asD a mh, asD b mh with
    | some ks, some ls => if ks.length = ls.length then match hitsM mh ls ks with
        | some true => some true
        | _ => none
      else none
    | _, _ => none) = some k → EqPr c.K H x y k := fun e => by
    cases e1 : asD a mh with
    | none => simp only [e1] at e; cases e
    | some ks =>
      cases e2 : asD b mh with
      | none => simp only [e1, e2] at e; cases e
      | some ls =>
        simp only [e1, e2] at e
        split at e
        · rename_i hl
          split at e
          · rename_i hh
            cases e
            obtain ⟨a1, kl, o1, rfl, h1, iv1, r1⟩ := asD_rep e1 rel ra
            obtain ⟨a2, ll, o2, rfl, h2, iv2, r2⟩ := asD_rep e2 rel rb
            have n1 : kl.length = ks.length := r1.length.symm
            have n2 : ll.length = ls.length := r2.length.symm
            exact .dict (rd_of_dv h1 iv1) (rd_of_dv h2 iv2) (by omega) (hits_rep rel r2 hh r1)
          · cases e
        · cases e
  unfold eqPrM at e
  cases e1 : toD mh 12 a with
  | none => simp only [e1] at e; exact dk e
  | some d =>
    cases e2 : toD mh 12 b with
    | none => simp only [e1, e2] at e; exact dk e
    | some d2 =>
      simp only [e1, e2] at e
      split at e
      · rename_i sh
        rw [Bool.and_eq_true] at sh
        cases e
        exact .data (toD_dp rel _ _ _ _ e1 ra) (toD_dp rel _ _ _ _ e2 rb) sh.1 sh.2
      · cases e
theorem eqPrs_rep {ι β : List Addr} {H : Hp} {mh : MH} (rel : Rel c ι β H mh) : ∀ {l r : List MV} {xs ys : List V} {bs : List Bool}, eqPrsM mh l r = some bs → RepVs c.K ι β H l xs → RepVs c.K ι β H r ys → EqPrs c.K H xs ys bs
  | [], [], xs, ys, bs, e, h1, h2 => by
    rw [h1.nil_iff, h2.nil_iff]
    cases e
    exact .nil
  | a :: l, b :: r, xs, ys, bs, e, h1, h2 => by
    obtain ⟨v, vs, rfl, q1, t1⟩ := h1.cons_iff
    obtain ⟨u, us, rfl, q2, t2⟩ := h2.cons_iff
    unfold eqPrsM at e
    cases e1 : eqPrM mh a b with
    | none => simp only [e1] at e; cases e
    | some k =>
      simp only [e1] at e
      cases e2 : eqPrsM mh l r with
      | none => simp only [e2] at e; cases e
      | some bs' =>
        simp only [e2, Option.some.injEq] at e
        subst e
        exact .cons (eqPr_rep rel e1 q1 q2) (eqPrs_rep rel e2 t1 t2)
  | [], _ :: _, _, _, _, e, _, _ => by unfold eqPrsM at e; cases e
  | _ :: _, [], _, _, _, e, _, _ => by unfold eqPrsM at e; cases e
theorem p_eqTM (neg : Bool) : P2 c (rEqT c.K neg) (eqTM neg) := fun ι β H mh a b x y Q W rel ra rb p => by
  unfold eqTM at p
  split at p
  · rename_i l r
    split at p
    · rename_i rs e
      obtain ⟨a1, xs, rfl, s1, r1⟩ := ra.tup_iff
      obtain ⟨a2, ys, rfl, s2, r2⟩ := rb.tup_iff
      exact ⟨a1, a2, xs, ys, rs, rfl, rfl, s1, s2, eqPrs_rep rel e r1 r2, p ι H _ .refl rel (rbl _ _ _)⟩
    · exact p.elim
  · exact p.elim
/-- with all these -/
noncomputable def mEqB (a b : MV) (h : MH) : R MV := orB (mEqA a b h) (eqTM false a b h)
noncomputable def mNeB (a b : MV) (h : MH) : R MV := orB (mNeA a b h) (eqTM true a b h)
noncomputable def rEqAllT (K : PySem.W.Frag) : R2 := fun x y H Q => rEqAll K x y H Q ∨ rEqT K false x y H Q
noncomputable def rNeAllT (K : PySem.W.Frag) : R2 := fun x y H Q => rNeAll K x y H Q ∨ rEqT K true x y H Q
theorem op_eqXT (hu : X.A.units + 67 < cLine) : OpR X (compareOp .Eq) (rEqAllT X.K) := (op_eqX (by omega)).or (op_eqT hu)
theorem op_neXT (hu : X.A.units + 67 < cLine) : OpR X (compareOp .NotEq) (rNeAllT X.K) := (op_neX (by omega)).or (op_neT hu)
theorem p_eqXT : P2 c (rEqAllT c.K) mEqB := P2.orB p_eqX (p_eqTM false)
theorem p_neXT : P2 c (rNeAllT c.K) mNeB := P2.orB p_neX (p_eqTM true)
end
end MP
namespace MP
open PySem PySem.Spec PyProof.Rows PyProof.V L2
noncomputable def encK : Key → PyData
  | .inl i => .int i
  | .inr x => .str x
mutual
noncomputable def noL : PyData → Bool
  | .list _ => false
  | .dict _ => false
  | .tuple xs => noLs xs
  | .none => true
  | .bool _ => true
  | .int _ => true
  | .str _ => true
noncomputable def noLs : List PyData → Bool
  | [] => true
  | x :: xs => noL x && noLs xs
end
mutual
theorem reads_noL {h : Heap} : ∀ {d : PyData} {v : Value} {as : List Addr}, noL d = true → Reads h v d as → as = []
  | .none, _, _, _, r => by cases r; rfl
  | .bool _, _, _, _, r => by cases r; rfl
  | .int _, _, _, _, r => by cases r; rfl
  | .str _, _, _, _, r => by cases r; rfl
  | .list _, _, _, n, _ => by rw [noL] at n; cases n
  | .dict _, _, _, n, _ => by rw [noL] at n; cases n
  | .tuple xs, _, _, n, r => by
    rw [noL] at n
    cases r with
    | tuple _ _ _ h4 => exact readsAll_noL n h4
theorem readsAll_noL {h : Heap} : ∀ {ds : List PyData} {vs : List Value} {as : List Addr}, noLs ds = true → ReadsAll h vs ds as → as = []
  | [], _, _, _, r => by cases r; rfl
  | d :: ds, _, _, n, r => by
    rw [noLs, Bool.and_eq_true] at n
    cases r with
    | cons r1 r2 => rw [reads_noL n.1 r1, readsAll_noL n.2 r2]; rfl
end
inductive DpKV (K : PySem.W.Frag) (H : Hp) : List (Key × V) → List (PyData × PyData) → Prop
  | nil : DpKV K H [] []
  | cons {k : Key} {v : V} {d : PyData} {kvs : List (Key × V)} {D : List (PyData × PyData)} : Dp K H v d → noL d = true → DpKV K H kvs D → DpKV K H ((k, v) :: kvs) ((encK k, d) :: D)
section
variable {X : Cx} {c : C}
theorem DpKV.pairs {pins : List (Addr × Obj)} {σ : St} {H : Hp} {s : Shared} (I : Inv X pins σ H s) {kvs : List (Key × V)} {D : List (PyData × PyData)} (dp : DpKV X.K H kvs D) : ∀ {va : List (Key × Value)}, KV kvs va → PairsRead s.heap encK va D [] := by
  induction dp with
  | nil => intro va h; cases h; exact .nil
  | @cons k v d kvs D dv n _ ih =>
    intro va h
    cases h with
    | @cons p q ps qs h t =>
      obtain ⟨key, w⟩ := q
      obtain ⟨h1, h2⟩ := h
      have h1 : k = key := h1
      subst h1
      obtain ⟨as, r⟩ := Dp.reads I d v w dv h2
      have e := reads_noL n r
      subst e
      exact PairsRead.cons r (ih t)
theorem key_reads {P : Program} {w : World} (h : Heap) : ∀ k key, (mixKind P w).is k key = true → Reads h key (encK k) [] := fun k key e => by
  rcases keyIs_shape e with ⟨i, t, rfl, rfl⟩ | ⟨x, t, rfl, rfl⟩
  · exact Reads.int i t
  · exact Reads.str x t
theorem reads_dict {pins : List (Addr × Obj)} {σ : St} {H : Hp} {s : Shared} (I : Inv X pins σ H s) {a : Addr} {kvs : List (Key × V)} {D : List (PyData × PyData)} (ea : Rd H a (.dK kvs)) (dp : DpKV X.K H kvs D) : ∃ as, Reads s.heap (.ref a) (.dict D) as ∧ sysModules ∉ as := by
  obtain ⟨_, ya, va, ra, da⟩ := dk_rd I.hok ea
  obtain ⟨o, es, ep, h1, h2, h3, h4, h5, h6⟩ := da
  obtain ⟨r1, r2⟩ := readsAll_of_pairs (key_reads s.heap) h5 (dp.pairs I ra)
  refine ⟨_, Reads.dict h1 h2.1 h3 r1 r2, ?_⟩
  intro m
  have : sysModules = a := by simpa using m
  rw [← this] at ya
  simp at ya
theorem PN.orB {r1 r2 : List V → Hp → VK → Prop} {f g : List MV → MH → R MV} (h1 : PN c r1 f) (h2 : PN c r2 g) : PN c (fun x H Q => r1 x H Q ∨ r2 x H Q) (fun a h => MP.orB (f a h) (g a h)) := fun ι β H mh a x Q W rel ra p => by
  have p : Post c ι β H (RV c) Q W (MP.orB (f a mh) (g a mh)) := p
  cases e : f a mh with
  | bad => rw [e] at p; exact .inr (h2 ι β H mh a x Q W rel ra p)
  | ok v h => rw [e] at p; exact .inl (h1 ι β H mh a x Q W rel ra (by rw [e]; exact p))
  | ex y h => rw [e] at p; exact .inl (h1 ι β H mh a x Q W rel ra (by rw [e]; exact p))
end
end MP
namespace MP
open PySem PySem.Spec PyProof.Rows L2
section
variable {X : Cx} {c : C} {W : WX} {pos : Pos}
theorem hu67 {k : Nat} {A : Around} (hr : RoomG k A) : A.units + 67 < cLine := by have := hr.un; omega
noncomputable def mDictV : EM := fun _ h => finDV [] h
theorem e_dictV : PE X (.Dict [] [] pos) (tE c W mDictV) :=
  pe_dnewK.wk fun σ H Q ⟨ι, β, mh, σm, rel, rl, p⟩ => fun q hq => finND_V ι β H mh [] [] q Q _ rel rfl hq p
noncomputable def m3D (f : MV → MV → MV → MH → R MV) (ra rb rc : EM) : EM := fun σ h => bindR (ra σ h) fun a h1 => if isDk a h1 = true then bindR (rb σ h1) fun b h2 => bindR (rc σ h2) fun d h3 => f a b d h3 else .bad
/-- len of a dict that may change -/
noncomputable def mLenD (as : List MV) (h : MH) : R MV := match as with
  | [.ref n] => match h[n]? with
    | some (.dct l) => .ok (.int l.length) h
    | _ => .bad
  | _ => .bad
theorem p_lenD : PN c (fun xs H Q => ∃ a kvs, xs = [V.ref a] ∧ H a = some (.dK kvs) ∧ Q (.int kvs.length) H) mLenD := fun ι β H mh as xs Q W rel ra p => by
  unfold mLenD at p
  split at p
  · rename_i n
    split at p
    · rename_i l eo
      obtain ⟨v, rfl, q⟩ := Vs1 ra
      unfold RepV at q
      obtain ⟨b, rfl, ea⟩ := q
      obtain ⟨o2, e2, ro⟩ := rel.at ea
      rw [eo] at e2; cases e2
      obtain ⟨kl, hb, rk⟩ := ro
      exact ⟨b, kl, rfl, hb, by rw [← rk.length]; exact p ι H _ .refl rel (rint _ _ _)⟩
    · exact p.elim
  · exact p.elim
end
end MP
namespace MP
open PySem PySem.Spec PyProof.Rows L2
/-- the context of a suite: the exception in slot i -/
abbrev C.at (c : C) (i : Nat) (a : Addr) (n : Nat) (d : Option Addr) : C := ⟨c.K, c.ca, some (i, a, n, d)⟩
/-- the exception, as a suite has it -/
@[simp] noncomputable def exvOf (e : MX) : MV := .exv e.c (e.fs.map (·.1)) (e.fs.map (·.2))
section
variable {X : Cx} {c : C} {i n : Nat} {a : Addr} {d : Option Addr} {oe : Obj} {pn : List (Addr × Obj)} {D : Addr} {pos : Pos} {W : WX}
theorem RepFs.get {K : PySem.W.Frag} {ι β : List Addr} {H : Hp} {F : Str} {m : MV} : ∀ {fs : List (Str × MV)} {gs : List (Str × V)}, RepFs K ι β H fs gs → fs.lookup F = some m → ∃ v, gs.lookup F = some v ∧ RepV K ι β H m v
  | [], _, _, e => by simp at e
  | (k, m0) :: r, gs, h, e => by
    obtain ⟨v, gs', rfl, q, t⟩ := h
    by_cases hk : F = k
    · subst hk
      simp only [List.lookup_cons, BEq.rfl, Option.some.injEq] at e ⊢
      subst e
      exact ⟨v, rfl, q⟩
    · have hb : (F == k) = false := by simpa using hk
      simp only [List.lookup_cons, hb] at e ⊢
      exact RepFs.get t e
end
end MP
namespace MP
open PySem PySem.Spec PyProof.Rows PyProof.V L2
/-- what may stand there -/
inductive DpM (K : PySem.W.Frag) (H : Hp) : List V → List PyData → Prop
  | nil : DpM K H [] []
  | cons {v : V} {vs : List V} {d : PyData} {ds : List PyData} : Dp K H v d → noL d = true → DpM K H vs ds → DpM K H (v :: vs) (d :: ds)
  | dct {a : Addr} {vs : List V} {ds : List PyData} : Rd H a (.dK []) → DpM K H vs ds → DpM K H (.ref a :: vs) (.dict [] :: ds)
section
variable {X : Cx} {c : C}
theorem DpM.reads {pins : List (Addr × Obj)} {σ : St} {H : Hp} {s : Shared} (I : Inv X pins σ H s) {vs : List V} {ds : List PyData} (dp : DpM X.K H vs ds) : ∀ {us : List Value}, Vals vs us → ∃ as, ReadsAll s.heap us ds as ∧ sysModules ∉ as := by
  induction dp with
  | nil => intro us r; cases r; exact ⟨[], .nil, by simp⟩
  | @cons v vs d ds dv n _ ih =>
    intro us r
    cases r with
    | cons r1 r2 =>
      obtain ⟨as, q1⟩ := Dp.reads I d _ _ dv r1
      have e := reads_noL n q1
      subst e
      obtain ⟨bs, q2, n2⟩ := ih r2
      exact ⟨[] ++ bs, .cons q1 q2, n2⟩
  | @dct a vs ds ea _ ih =>
    intro us r
    cases r with
    | @cons _ u _ _ r1 r2 =>
      obtain rfl : u = Value.ref a := r1
      obtain ⟨bs, q2, n2⟩ := ih r2
      obtain ⟨_, ya, va, ra, da⟩ := dk_rd I.hok ea
      obtain ⟨as, rd⟩ : ∃ as, Reads s.heap (.ref a) (.dict []) as ∧ sysModules ∉ as := reads_dict I ea .nil
      exact ⟨as ++ bs, .cons rd.1 q2, fun m => (List.mem_append.mp m).elim rd.2 n2⟩
end
theorem takesN0 {X : Cx} : L2N.Takes X (fun _ _ _ _ => False) := fun _ _ ⟨_, _, _, _, _, _, _, _, _, _, _, _, _, _, _, _, w⟩ => w.elim
end MP
namespace MP
open PySem PySem.Spec PyProof.Rows L2
section
variable {prog : Program} {w : World} {A : Around} {E : Value → Shared → Prop} {s : Shared}
noncomputable def hN : Int := reduceHash 0xFCA86420
noncomputable def hT : Int := reduceHash (Builtin.Tuple.tupleHashOf [hashInt 1])
theorem hash_small {i : Int} (h0 : 0 ≤ i) (h1 : i ≤ 1000) : hashInt i = i := by
  have : ∀ n : Nat, n ≤ 1000 → hashInt (n : Int) = (n : Int) := by decide +kernel
  have h2 := this i.toNat (by omega)
  rw [Int.toNat_of_nonneg h0] at h2
  exact h2
theorem far {i hk : Int} (h0 : 0 ≤ i) (h1 : i ≤ 1000) (hb : 1000 < hk ∨ hk < 0) : hk ≠ hashInt i := by
  rw [hash_small h0 h1]; omega
/-- the raw dict's keys are small whole numbers -/
noncomputable def SmallK (w : World) (es : Array DictEntry) : Prop := ∀ e ∈ es, ∃ (i : Int) (t : Tok), e.key = .int i t ∧ e.hash = hashInt i ∧ 0 ≤ i ∧ i ≤ 1000
theorem SmallK.ne {es : Array DictEntry} {hk : Int} (k : SmallK w es) (hb : 1000 < hk ∨ hk < 0) : ∀ e ∈ es, e.hash ≠ hk := fun e he => by
  obtain ⟨i, t, _, e2, h0, h1⟩ := k e he
  rw [e2]
  exact fun z => far h0 h1 hb z.symm
theorem SmallK.int {es : Array DictEntry} (k : SmallK w es) : ∀ e ∈ es, ∃ i t, e.key = .int i t := fun e he => by
  obtain ⟨i, t, e1, _⟩ := k e he
  exact ⟨i, t, e1⟩
variable {u : Value} {hk : Int} {C : Heap → Prop} {d : Addr} {o : Obj} {es : Array DictEntry} {ep : Nat}
end
end MP
namespace MP
open PySem PySem.Spec PyProof.Rows PyProof.V L2
/-- the entries of such a dict -/
noncomputable def EsAre (kvs : List (Int × V)) (es : List DictEntry) : Prop := Paired (fun (p : Int × V) (e : DictEntry) => ∃ t, e.key = .int p.1 t ∧ e.hash = hashInt p.1 ∧ RelV p.2 e.val) kvs es
theorem EsAre.len {kvs : List (Int × V)} {es : List DictEntry} (h : EsAre kvs es) : kvs.length = es.length := Paired.length h
theorem EsAre.small {w : World} {kvs : List (Int × V)} {es : Array DictEntry} (h : EsAre kvs es.toList) (b : ∀ p ∈ kvs, 0 ≤ p.1 ∧ p.1 ≤ 1000) : SmallK w es := by
  intro e he
  have he' : e ∈ es.toList := by simpa using he
  generalize es.toList = l at h he'
  clear he
  induction h with
  | nil => simp at he'
  | @cons p q ps qs r t ih =>
    rcases List.mem_cons.mp he' with rfl | z
    · obtain ⟨tk, h1, h2, _⟩ := r
      exact ⟨p.1, tk, h1, h2, b p List.mem_cons_self⟩
    · exact ih (fun p hp => b p (List.mem_cons_of_mem _ hp)) z
theorem EsAre.keys {P : Program} {w : World} {kvs : List (Int × V)} {es : Array DictEntry} (h : EsAre kvs es.toList) : KeysOf (mixKind P w) es := by
  intro e he
  have he' : e ∈ es.toList := by simpa using he
  generalize es.toList = l at h he'
  clear he
  induction h with
  | nil => simp at he'
  | @cons p q ps qs r t ih =>
    rcases List.mem_cons.mp he' with rfl | z
    · obtain ⟨tk, h1, h2, _⟩ := r
      exact ⟨.inl p.1, by rw [h1]; exact keyIs_int p.1 tk, h2⟩
    · exact ih z
theorem EsAre.at {kvs : List (Int × V)} {es : List DictEntry} (h : EsAre kvs es) : ∀ {i : Nat} {p : Int × V}, kvs[i]? = some p → ∃ en, es[i]? = some en ∧ RelV (.int p.1) en.key ∧ RelV p.2 en.val := by
  intro i p e
  obtain ⟨en, e1, t, h1, _, h2⟩ := paired_get h e
  exact ⟨en, e1, by rw [h1]; exact ⟨t, rfl⟩, h2⟩
end MP
namespace MP
open PySem PySem.Spec PyProof.Rows PyProof.V L2
section
variable {X : Cx} {pins : List (Addr × Obj)} {σ : St} {H : Hp} {s : Shared}
/-- repr(W) -/
inductive DpP (K : PySem.W.Frag) (H : Hp) : List (V × V) → List (PyData × PyData) → Prop
  | nil : DpP K H [] []
  | cons {k v : V} {a b : PyData} {L : List (V × V)} {D : List (PyData × PyData)} : Dp K H k a → Dp K H v b → DpP K H L D → DpP K H ((k, v) :: L) ((a, b) :: D)
theorem DpP.reads {L : List (V × V)} {D : List (PyData × PyData)} (I : Inv X pins σ H s) (dp : DpP X.K H L D) : ∀ {es : List DictEntry}, Paired (fun (p : V × V) (en : DictEntry) => RelV p.1 en.key ∧ RelV p.2 en.val) L es → ∃ as bs, ReadsAll s.heap (es.map (·.key)) (D.map (·.1)) as ∧ ReadsAll s.heap (es.map (·.val)) (D.map (·.2)) bs := by
  induction dp with
  | nil => intro es h; cases h; exact ⟨[], [], .nil, .nil⟩
  | @cons k v a b L D d1 d2 _ ih =>
    intro es h
    cases h with
    | @cons _ en _ es' r t =>
      obtain ⟨as, bs, q1, q2⟩ := ih t
      obtain ⟨as1, p1⟩ := Dp.reads I a _ _ d1 r.1
      obtain ⟨bs1, p2⟩ := Dp.reads I b _ _ d2 r.2
      exact ⟨_, _, .cons p1 q1, .cons p2 q2⟩
end
end MP
namespace MP
open PySem PySem.Spec PyProof.Rows PyProof.V L2
theorem PI.or {X : Cx} {tg e : Expr} {t t' : TI} (h : PI X tg e t) (h' : PI X tg e t') : PI X tg e (fun σ H R => t σ H R ∨ t' σ H R) := ⟨fun pins s σ H R I q => q.elim (h.run pins s σ H R I) (h'.run pins s σ H R I)⟩
section
variable {X : Cx} {c : C} {W : WX} {pos : Pos}
variable {tg e : Expr} {re : EM}
noncomputable def dT (p : Addr) (Q : VK) : List (V × V) → Hp → Prop
  | [(.bl true, y)], H2 => H2 p = some (.dK []) ∧ ∀ o u, (p == sysModules) = false → OddD o [] (.bl true) (PpSet.hB true) y → (∀ q, u ≠ .dK q) → Q (.ref p) (upd H2 p (.frz o u))
  | _, _ => False
end
end MP
namespace MP
open PySem PySem.Spec PyProof.Rows PyProof.V L2
section
variable {X : Cx} {c : C} {W : WX} {pos : Pos} {ι β : List Addr} {H : Hp}
noncomputable def mTup1 (a : MV) (h : MH) : R MV := match asL a h with
  | some l => .ok (.tup l) h
  | none => match a with
    | .tup l => .ok (.tup l) h
    | _ => .bad
theorem e_tupleOf {a : Expr} {ra : EM} {p pos : Pos} (hK : X.K = c.K) (hg : Gl X "tuple") (hm : X.mg "tuple" = none) (ha : PE X a (tE c W ra)) (na : starEach [a] X.env = (false, eval a X.env) :: starEach [] X.env := by rfl) :
    PE X (.Call (.Name "tuple" p) [a] [] pos) (tE c W (m1 mTup1 ra)) :=
  (pe_tupleOf hg hm ha na).wk fun σ H Q ⟨ι, β, mh, σm, rel, rl, p⟩ => by
    rw [hK]
    refine (run1 rel rl p).mono fun x H1 ⟨ι1, mh1, v, f1, rel1, rl1, rv, p1⟩ => ?_
    unfold mTup1 at p1
    cases el : asL v mh1 with
    | some l =>
      simp only [el] at p1
      obtain ⟨a, vs, rfl, sq, r⟩ := asL_rep el rel1 rv
      exact .inl ⟨a, vs, rfl, .inl (.inl sq), fun q hq => p1 ι1 _ _ (Fr.lay rel1 hq) (rel1.lay hq) (rep_tup rel1 hq r)⟩
    | none =>
      simp only [el] at p1
      cases v with
      | tup l =>
        obtain ⟨a, vs, rfl, sq, r⟩ := rv.tup_iff
        exact .inr ⟨a, vs, rfl, sq, p1 ι1 H1 _ .refl rel1 rv⟩
      | _ => exact p1.elim
theorem items_rep {ι β : List Addr} {H' : Hp} : ∀ {kvs : List (MV × MV)} {l : List (Key × V)} {ts : List Addr}, RepKV c.K ι β H' kvs l → Paired (fun (t : Addr) (q : Key × V) => H' t = some (.tup [kV q.1, q.2])) ts l → (∀ t ∈ ts, t ∉ ι ∧ t ∉ β) → RepVs c.K ι β H' (kvs.map fun p => .tup [p.1, p.2]) (ts.map V.ref)
  | [], l, ts, r, pr, _ => by
    have e : l = [] := r
    subst e
    cases pr
    exact .nil
  | (k, m) :: kvs, l, ts, r, pr, nm => by
    obtain ⟨k', v, l', rfl, ek, rv, t⟩ := r
    cases pr with
    | @cons t0 _ ts' _ h1 h2 =>
      refine .cons ?_ (items_rep t h2 fun t ht => nm t (List.mem_cons_of_mem _ ht))
      unfold RepV
      refine ⟨t0, _, rfl, .inl ⟨h1, nm t0 List.mem_cons_self⟩, .cons ?_ (.cons rv .nil)⟩
      cases k with
      | int i => cases ek; exact rint _ _ _
      | str z => cases ek; exact rstr _ _ _
      | _ => cases ek
theorem RepKV.move' {ι β ι' β' : List Addr} {H H' : Hp} (f : Mov ι β H ι' β' H') : ∀ {kvs : List (MV × MV)} {l : List (Key × V)}, RepKV c.K ι β H kvs l → RepKV c.K ι' β' H' kvs l
  | [], _, r => r
  | (k, m) :: kvs, _, r => by
    obtain ⟨k', v, l', e, ek, rv, t⟩ := r
    exact ⟨k', v, l', e, ek, rv.move f, RepKV.move' f t⟩
end
end MP
namespace MP
open PySem PySem.Spec PyProof.Rows L2
theorem RoomG.make {k : Nat} {A : Around} (r : RoomG (k + 1) A) (C : Addr) (us : List Value) (kw : List (Str × Value)) : RoomG k (A.under (.builtin "type.__call__" ⟨.ref C :: us, kw⟩)) := by
  refine ⟨r.toRoom.make C us kw, ?_⟩
  show pushGuards (Code.guards (.builtin "type.__call__" ⟨.ref C :: us, kw⟩)) A.guards = some []
  have e : Code.guards (.builtin "type.__call__" ⟨.ref C :: us, kw⟩) = [] := by
    unfold Code.guards
    rw [show Code.isGuard (.builtin "type.__call__" ⟨.ref C :: us, kw⟩) = false from (by decide +kernel : guardIds.contains "type.__call__" = false)]; rfl
  rw [e, r.gd]; rfl
section
variable {X : Cx} {CX : CXT} {k n : Nat} {f C : Addr} {fd : FuncData} {ps ks : List Str} {sp : Sp} {dvs : List V} {ds : List Value} {E : St → XK} {x m : Str} {p pos apos : Pos} {e o : Expr} {es : List Expr} {kws : List Keyword} {ta : TE} {t tk : TA} {pins : List (Addr × Obj)} {σ : St} {H : Hp} {s : Shared} {Q : VK} {us ws : List Value} {vs zs : List V}
theorem call_GD {E : XK} (F : FnG X.prog X.w X.K X.mg X.base CX k f fd ps sp) (hr : RoomG k X.A) (hb : Binds X.K fd ps ds) (hd : Vals dvs ds) (hx : PassesAt CX X σ E) (I : Inv X pins σ H s) (r : Vals vs us) (h : sp (vs ++ dvs) H Q E) : wpAny (model X.prog X.w) X.A (call (.ref f) us) (EP X pins σ Q) X.xe s := by
  have r2 : Vals (vs ++ dvs) (us ++ ds) := r.append hd
  have b := hb s us I.kIn (by rw [← r2.length]; exact F.len _ _ _ _ h)
  exact wpAny_call (codeAny_mono (run_G F hr b hx I r2 h) fun r s' z => by rcases r with z2 | (_ | _ | _ | u) <;> first | exact z | exact z.elim)
theorem call_GN {E : XK} {g : List Value → List Value → List Value} {gV : List V → List V → List V} (F : FnG X.prog X.w X.K X.mg X.base CX k f fd ps sp) (hr : RoomG k X.A) (hb : KBn X.K fd ps n ks g gV) (hx : PassesAt CX X σ E) (I : Inv X pins σ H s) (r : Vals vs us) (rz : Vals zs ws) (l1 : vs.length = n) (l2 : zs.length = ks.length) (h : sp (gV vs zs) H Q E) :
    wpAny (model X.prog X.w) X.A (call (.ref f) us (ks.zip ws)) (EP X pins σ Q) X.xe s := by
  have b := hb.to s us ws I.kIn (r.length.symm.trans l1) (rz.length.symm.trans l2)
  exact wpAny_call (codeAny_mono (run_G F hr b hx I (hb.rel r rz) h) fun r s' z => by rcases r with z2 | (_ | _ | _ | u) <;> first | exact z | exact z.elim)
/-- o.m(e, ..) -/
noncomputable def tMethS (C : Addr) (m : Str) (sp : Sp) (dvs : List V) (E : St → XK) (ta : TE) (t : TA) : TE := fun σ H Q => ta σ H fun x H1 => ∃ a dx fs, x = .ref a ∧ H1 a = some (.ins C dx fs) ∧ fs.lookup m = none ∧ t σ H1 fun vs H2 => sp (x :: (vs ++ dvs)) H2 Q (E σ)
theorem pe_methG {pl : Sem Bool} (he : PE X o ta) (c : Cls X.K C) (hm : Meth X.K C m f) (F : FnG X.prog X.w X.K X.mg X.base CX k f fd ps sp) (hr : RoomG k X.A) (hb : Binds X.K fd ps ds) (hd : Vals dvs ds) (hx : ∀ σ, PassesAt CX X σ (E σ)) (ha : PA X (e :: es) t)
    (hst : starEach (e :: es) X.env = (false, eval e X.env) :: starEach es X.env := by rfl) (hpl : (backTo pos (starEach es X.env)).any (·.1) = false := by rfl)
    (ht : eval (.Call (.Attribute o m apos) (e :: es) [] pos) X.env = (do
      let ov ← eval o X.env
      standAt apos.atName
      let (f, first) ← holding [ov] (getMethod ov m pl)
      callWith pos f first (backTo pos (starEach (e :: es) X.env)) (backToKw pos (keywordEach [] X.env))) := by rfl) :
    PE X (.Call (.Attribute o m apos) (e :: es) [] pos) (tMethS C m sp dvs E ta t) := by
  constructor
  intro pins s σ H Q I h
  refine PySem.W.methodCall_KW (pl := pl) (thn (he.run pins s σ H _ I h) fun u s1 ⟨x, H1, I1, rx, a, dx, fs, ex, ea, l, q⟩ => ?_) ht
  subst ex
  obtain rfl : u = Value.ref a := rx
  refine getmeth_ok I1 ea c hm l ?_
  refine PySem.W.callWith_K (first := [.ref a]) (h₀ := X.base) I.ok.mod.kin hm.kp (thn (ha.run pos pins s1 σ H1 _ I1 q) fun us s2 ⟨vs, H2, I2, r, q2⟩ => ⟨I2.kIn, ?_⟩) hst hpl
  exact call_GD (us := .ref a :: us) (vs := .ref a :: vs) F hr hb hd (hx σ) I2 (.cons rfl r) q2
theorem pe_methG0 {pl : Sem Bool} (he : PE X o ta) (c : Cls X.K C) (hm : Meth X.K C m f) (F : FnG X.prog X.w X.K X.mg X.base CX k f fd ps sp) (hr : RoomG k X.A) (hb : Binds X.K fd ps ds) (hd : Vals dvs ds) (hx : ∀ σ, PassesAt CX X σ (E σ))
    (ht : eval (.Call (.Attribute o m apos) [] [] pos) X.env = (do
      let ov ← eval o X.env
      standAt apos.atName
      let (f, first) ← holding [ov] (getMethod ov m pl)
      callWith pos f first (backTo pos (starEach [] X.env)) (backToKw pos (keywordEach [] X.env))) := by rfl) :
    PE X (.Call (.Attribute o m apos) [] [] pos) (tMethS C m sp dvs E ta tNil) := by
  constructor
  intro pins s σ H Q I h
  refine PySem.W.methodCall_KW (pl := pl) (thn (he.run pins s σ H _ I h) fun u s1 ⟨x, H1, I1, rx, a, dx, fs, ex, ea, l, q⟩ => ?_) ht
  subst ex
  obtain rfl : u = Value.ref a := rx
  refine getmeth_ok I1 ea c hm l ?_
  exact PySem.W.callWith_K0 (first := [.ref a]) I1.kIn hm.kp (call_GD (us := [.ref a]) (vs := [.ref a]) F hr hb hd (hx σ) I1 (.cons rfl .nil) q)
/-- o.m(e, .., k = v, ..) -/
noncomputable def tMethK (C : Addr) (m : Str) (n j : Nat) (sp : Sp) (gV : List V → List V → List V) (E : St → XK) (ta : TE) (t tk : TA) : TE := fun σ H Q => ta σ H fun x H1 => ∃ a dx fs, x = .ref a ∧ H1 a = some (.ins C dx fs) ∧ fs.lookup m = none ∧ t σ H1 fun vs H2 => tk σ H2 fun zs H3 => vs.length + 1 = n ∧ zs.length = j ∧ sp (gV (x :: vs) zs) H3 Q (E σ)
theorem pe_methGK0 {pl : Sem Bool} {g : List Value → List Value → List Value} {gV : List V → List V → List V} (he : PE X o ta) (c : Cls X.K C) (hm : Meth X.K C m f) (F : FnG X.prog X.w X.K X.mg X.base CX k f fd ps sp) (hr : RoomG k X.A) (hb : KBn X.K fd ps n ks g gV) (hx : ∀ σ, PassesAt CX X σ (E σ)) (hkw : PK X kws tk)
    (hall : (backToKw pos (keywordEach kws X.env)).all (·.1.isSome) = true := by rfl) (hks : (backToKw pos (keywordEach kws X.env)).filterMap (·.1) = ks := by rfl)
    (hpl : ((backTo pos (starEach [] X.env)).any (·.1) || (backToKw pos (keywordEach kws X.env)).any (·.1.isNone)) = false := by rfl)
    (ht : eval (.Call (.Attribute o m apos) [] kws pos) X.env = (do
      let ov ← eval o X.env
      standAt apos.atName
      let (f, first) ← holding [ov] (getMethod ov m pl)
      callWith pos f first (backTo pos (starEach [] X.env)) (backToKw pos (keywordEach kws X.env))) := by rfl) :
    PE X (.Call (.Attribute o m apos) [] kws pos) (tMethK C m n ks.length sp gV E ta tNil tk) := by
  constructor
  intro pins s σ H Q I h
  refine PySem.W.methodCall_KW (pl := pl) (thn (he.run pins s σ H _ I h) fun u s1 ⟨x, H1, I1, rx, a, dx, fs, ex, ea, l, q⟩ => ?_) ht
  subst ex
  obtain rfl : u = Value.ref a := rx
  refine getmeth_ok I1 ea c hm l ?_
  refine PySem.W.callWith_KW0 (first := [.ref a]) (h₀ := X.base) I.ok.mod.kin hm.kp hall ?_ hpl
  refine thn (hkw.run pos pins s1 σ H1 _ I1 q) fun ws s3 ⟨zs, H3, I3, rz, l1, l2, q3⟩ => ⟨I3.kIn, ?_⟩
  rw [hks]
  exact call_GN (us := [.ref a]) (vs := [.ref a]) F hr hb (hx σ) I3 (.cons rfl .nil) rz (by simpa using l1) l2 q3
/-- C(..) -/
noncomputable def tMakeS (C : Addr) (sp : Sp) (dvs : List V) (E : St → XK) (t : TA) : TE := fun σ H Q => t σ H fun vs H1 => ∀ x dx, H1 x = none → H1 dx = none → dx ≠ x →
  sp (.ref x :: (vs ++ dvs)) (upd (upd H1 dx (.own x)) x (.ins C dx [])) (fun v H2 => v = .non ∧ Q (.ref x) H2) (E σ)
theorem run_makeG {E : XK} (M : Mk X.K C f) (F : FnG X.prog X.w X.K X.mg X.base CX k f fd ps sp) (hr : RoomG (k + 1) X.A) (hb : Binds X.K fd ps ds) (hd : Vals dvs ds)
    (hx : ∀ pins H s, ∀ e s', Inv X pins σ H s → CX X.stack H s E e s' → X.xe e s') (I : Inv X pins σ H s) (r : Vals vs us)
    (h : ∀ x dx, H x = none → H dx = none → dx ≠ x → sp (.ref x :: (vs ++ dvs)) (upd (upd H dx (.own x)) x (.ins C dx [])) (fun v H2 => v = .non ∧ Q (.ref x) H2) E) :
    wpAny (model X.prog X.w) X.A (call (.ref C) us) (EP X pins σ Q) X.xe s := by
  have hq := h (s.heap.objs.size + 1) s.heap.objs.size (I.hok.fresh (Nat.le_succ _)) (I.hok.fresh (Nat.le_refl _)) (Nat.ne_of_lt (Nat.lt_succ_self _))
  have I2 := Inv.made (C := C) I
  have r2 : Vals (V.ref (s.heap.objs.size + 1) :: (vs ++ dvs)) (Value.ref (s.heap.objs.size + 1) :: (us ++ ds)) := .cons rfl (r.append hd)
  have hl : (Value.ref (s.heap.objs.size + 1) :: us ++ ds).length = ps.length := by
    have e := r2.length
    rw [F.len _ _ _ _ hq] at e
    exact e.symm
  refine wpAny_call (make_map (f := f) I.kIn M.makes M.init (beq_iff_eq.mp M.fn) (codeAny_mono (F.go (hr.make C us []) (I2.env0.make C us []) (hb _ (Value.ref (s.heap.objs.size + 1) :: us) I2.kIn hl) r2 hq) fun r s' hq' => ?_))
  cases r with
  | error e => exact hx pins _ _ e s' I2 hq'
  | ok fl =>
    cases fl with
    | ret u =>
      obtain ⟨v, H', I3, rv, ev, q3⟩ := I2.after hq'
      subst ev
      exact ⟨rv, ⟨V.ref (s.heap.objs.size + 1), H', I3, rfl, q3⟩⟩
    | next => exact False.elim hq'
    | brk => exact False.elim hq'
    | cont => exact False.elim hq'
theorem pe_makeG (M : Mk X.K C f) (F : FnG X.prog X.w X.K X.mg X.base CX k f fd ps sp) (hr : RoomG (k + 1) X.A) (hg : Gl X x) (hm : X.mg x = some (.ref C)) (hb : Binds X.K fd ps ds) (hd : Vals dvs ds) (hx : ∀ σ, PassesAt CX X σ (E σ))
    (ha : PA X (e :: es) t) (hdb : (x == ("__debug__" : Str)) = false := by decide) (he : starEach (e :: es) X.env = (false, eval e X.env) :: starEach es X.env := by rfl) (hpl : (backTo pos (starEach es X.env)).any (·.1) = false := by rfl) :
    PE X (.Call (.Name x p) (e :: es) [] pos) (tMakeS C sp dvs E t) := by
  constructor
  intro pins s σ H Q I h
  refine wpAny_Call_Name_kw (ld_glob I hg hm ?_ hdb)
  refine PySem.W.callWith_K (h₀ := X.base) I.ok.mod.kin M.kp (thn (ha.run pos pins s σ H _ I h) fun us s1 ⟨vs, H1, I1, r, q⟩ => ⟨I1.kIn, ?_⟩) he hpl
  exact run_makeG M F hr hb hd (fun pins H s e s' I c => hx σ pins H s e s' I c) I1 r q
end
theorem RepFs.look {K : PySem.W.Frag} {ι β : List Addr} {H : Hp} {f : Str} : ∀ {fs : List (Str × MV)} {l : List (Str × V)}, RepFs K ι β H fs l → (∀ m, fs.lookup f = some m → ∃ v, l.lookup f = some v ∧ RepV K ι β H m v) ∧ (fs.lookup f = none → l.lookup f = none)
  | [], l, r => by
    have e : l = [] := r
    subst e
    exact ⟨fun m e => by simp at e, fun _ => rfl⟩
  | (g, m) :: fs, l, r => by
    obtain ⟨v, r', rfl, q, t⟩ := r
    have ih := RepFs.look (f := f) t
    by_cases h : f = g
    · subst h
      refine ⟨fun x e => ?_, fun e => ?_⟩
      · simp at e
        subst e
        exact ⟨v, by simp, q⟩
      · simp at e
    · have hb : (f == g) = false := by simpa using h
      rw [List.lookup_cons, List.lookup_cons, hb]
      exact ih
theorem RepFs.length {K : PySem.W.Frag} {ι β : List Addr} {H : Hp} : ∀ {fs : List (Str × MV)} {l : List (Str × V)}, RepFs K ι β H fs l → fs.length = l.length
  | [], l, r => by
    have e : l = [] := r
    subst e; rfl
  | (g, m) :: fs, l, r => by
    obtain ⟨v, r', rfl, q, t⟩ := r
    rw [List.length_cons, List.length_cons, RepFs.length t]
noncomputable def putFs (f : Str) (v : MV) : List (Str × MV) → List (Str × MV)
  | [] => [(f, v)]
  | (g, x) :: r => if g = f then (g, v) :: r else (g, x) :: putFs f v r
theorem RepFs.put {K : PySem.W.Frag} {ι β : List Addr} {H : Hp} {f : Str} {m : MV} {v : V} (rm : RepV K ι β H m v) : ∀ {fs : List (Str × MV)} {l : List (Str × V)}, RepFs K ι β H fs l → RepFs K ι β H (putFs f m fs) (putF f v l)
  | [], l, r => by
    have e : l = [] := r
    subst e
    exact ⟨v, [], rfl, rm, rfl⟩
  | (g, x) :: fs, l, r => by
    obtain ⟨y, r', rfl, q, t⟩ := r
    unfold putFs putF
    by_cases h : g = f
    · rw [if_pos h, if_pos h]
      exact ⟨v, r', rfl, rm, t⟩
    · rw [if_neg h, if_neg h]
      exact ⟨y, _, rfl, q, RepFs.put rm t⟩
section
variable {X : Cx} {c : C} {W : WX} {k n : Nat} {f : Addr} {fd : FuncData} {ps ks : List Str} {m : List MV → MH → R MV} {g : Nat → (List MV → MH → R MV) → List MV → MH → R MV} {x mn F : Str} {p pos apos : Pos} {e o : Expr} {es : List Expr} {ro : EM} {rs rk : AM} {kws : List Keyword}
/-- o.F -/
noncomputable def mFld (cs : List Nat) (F : Str) (v : MV) (h : MH) : R MV := match v with
  | .ref n => match h[n]? with
    | some (.ins k fs) => if cs.contains k = true then match fs.lookup F with
      | some x => .ok x h
      | none => .bad
      else .bad
    | _ => .bad
  | _ => .bad
/-- what of the classes must be known -/
noncomputable def FldAt (K : PySem.W.Frag) (ca : Nat → Addr) (cs : List Nat) (F : Str) : Prop := ∀ n ∈ cs, Cls K (ca n) ∧ NoAttr K (ca n) F
theorem e_fld {cs : List Nat} (hK : X.K = c.K) (T : FldAt c.K c.ca cs F) (he : PE X o (tE c W ro)) (hb : attributeBase o F X.env (eval o X.env) = eval o X.env := by rfl) : PE X (.Attribute o F pos) (tE c W (m1 (mFld cs F) ro)) :=
  (pe_fld he hb).wk fun σ H Q ⟨ι, β, mh, σm, rel, rl, p⟩ => by
    refine (run1 rel rl p).mono fun x H1 ⟨ι1, mh1, v, f1, rel1, rl1, rv, p1⟩ => ?_
    unfold mFld at p1
    cases v with
    | ref n =>
      simp only at p1
      cases eo : mh1[n]? with
      | none => simp only [eo] at p1; exact p1.elim
      | some ob =>
        simp only [eo] at p1
        cases ob with
        | ins j fs =>
          simp only at p1
          split at p1
          · rename_i hc
            cases el : fs.lookup F with
            | none => simp only [el] at p1; exact p1.elim
            | some y =>
              simp only [el] at p1
              unfold RepV at rv
              obtain ⟨a, rfl, ea⟩ := rv
              obtain ⟨o2, e2, dx, l, hv, r⟩ := rel1.obj n _ eo
              rw [ea] at e2
              cases e2
              obtain ⟨u, eu, ru⟩ := r.look.1 y el
              obtain ⟨t1, t2⟩ := T j (by simpa using hc)
              rw [hK]
              exact ⟨a, _, dx, l, u, rfl, hv, t1, t2, eu, p1 ι1 H1 u .refl rel1 ru⟩
          · exact p1.elim
        | _ => exact p1.elim
    | _ => exact p1.elim
/-- o.F = v -/
noncomputable def sFldM (cs : List Nat) (F : Str) (rv ro : EM) : SM := fun σ h => bindS (rv σ h) σ fun v h1 => bindS (ro σ h1) σ fun o h2 => match o with
  | .ref n => match h2[n]? with
    | some (.ins k fs) => if (cs.contains k && decide (fs.length < 1000)) = true then .nx σ (setH h2 n (.ins k (putFs F v fs))) else .bad
    | _ => .bad
  | _ => .bad
theorem s_fld {cs : List Nat} {value : Expr} {rv : EM} {pos' : Pos} (hK : X.K = c.K) (T : FldAt c.K c.ca cs F) (hv : PE X value (tE c W rv)) (ho : PE X o (tE c W ro)) (hs : swapsWith value (some (.Attribute o F pos')) pos.line X.env = pure false := by rfl) : PS X (.Assign [.Attribute o F pos'] value pos) (tS c W (sFldM cs F rv ro)) :=
  (ps_fld ho hv hs).wk fun D σ H ⟨ι, β, mh, σm, rel, rl, q⟩ => by
    refine (run1S rel rl q).mono fun v H1 ⟨ι1, mh1, mv, f1, rel1, rl1, rm, p1⟩ => ?_
    refine (run1S rel1 rl1 p1).mono fun x H2 ⟨ι2, mh2, mo, f2, rel2, rl2, rmo, p2⟩ => ?_
    cases mo with
    | ref n =>
      simp only at p2
      cases eo : mh2[n]? with
      | none => simp only [eo] at p2; exact p2.elim
      | some ob =>
        simp only [eo] at p2
        cases ob with
        | ins j fs =>
          simp only at p2
          split at p2
          · rename_i hc
            rw [Bool.and_eq_true, decide_eq_true_eq] at hc
            unfold RepV at rmo
            obtain ⟨a, rfl, ea⟩ := rmo
            obtain ⟨o2, e2, dx, l, hv, r⟩ := rel2.obj n _ eo
            rw [ea] at e2
            cases e2
            obtain ⟨t1, t2⟩ := T j (by simpa using hc.1)
            rw [hK]
            have nf : ∀ o u, H2 a ≠ some (.frz o u) := fun o u z => by rw [hv] at z; cases z
            have f := Fr.put (o := .ins (c.ca j) dx (putF F v l)) ea nf
            refine ⟨a, _, dx, l, rfl, hv, t1, t2, by rw [← r.length]; exact hc.2, p2 ι2 _ _ f (rel2.put ea nf ⟨dx, _, upd_same, ?_⟩) (rl2.mono f)⟩
            exact (RepFs.put (rm.mono f2) r).move f.mov
          · exact p2.elim
        | _ => exact p2.elim
    | _ => exact p2.elim
/-- o.m(..): as holds the arguments behind o -/
noncomputable def mMethC (j : Nat) (mn : Str) (ro : EM) (rs : AM) (fn : MV → List MV → MH → R MV) : EM := fun σ h => bindR (ro σ h) fun v h1 => match v with
  | .ref n => match h1[n]? with
    | some (.ins k fs) => if (Nat.beq k j && (fs.lookup mn).isNone) = true then bindR (rs σ h1) fun as h2 => fn v as h2 else .bad
    | _ => .bad
  | _ => .bad
theorem meth_of {j : Nat} {fn : MV → List MV → MH → R MV} {σ : St} {H : Hp} {Q : VK} {t : TA} {K : V → List V → Hp → Prop} (h : tE c W (mMethC j mn ro rs fn) σ H Q) (ht : ∀ σ H Q, tA c W rs σ H Q → t σ H Q)
    (hK : ∀ ι β H mh n as x xs, Rel c ι β H mh → RepV c.K ι β H (.ref n) x → RepVs c.K ι β H as xs → Post c ι β H (RV c) Q (fun cls d H' => W cls d σ H') (fn (.ref n) as mh) → K x xs H) :
    tE c W ro σ H fun x H1 => ∃ a dx fs, x = .ref a ∧ H1 a = some (.ins (c.ca j) dx fs) ∧ fs.lookup mn = none ∧ t σ H1 fun vs H2 => K x vs H2 := by
  obtain ⟨ι, β, mh, σm, rel, rl, p⟩ := h
  refine (run1 rel rl p).mono fun x H1 ⟨ι1, mh1, v, f1, rel1, rl1, rv, p1⟩ => ?_
  cases v with
  | ref n =>
    simp only at p1
    cases eo : mh1[n]? with
    | none => simp only [eo] at p1; exact p1.elim
    | some ob =>
      simp only [eo] at p1
      cases ob with
      | ins k fs =>
        simp only at p1
        split at p1
        · rename_i hc
          rw [Bool.and_eq_true] at hc
          obtain rfl : k = j := Nat.eq_of_beq_eq_true hc.1
          have rv' := rv
          unfold RepV at rv'
          obtain ⟨a, rfl, ea⟩ := rv'
          obtain ⟨o2, e2, dx, l, hv, r⟩ := rel1.obj n _ eo
          rw [ea] at e2
          cases e2
          refine ⟨a, dx, l, rfl, hv, r.look.2 (by simpa using hc.2), ?_⟩
          exact ht _ _ _ ((run1 rel1 rl1 p1).mono fun xs H2 ⟨ι2, mh2, as, f2, rel2, rl2, ras, p2⟩ => hK ι2 β H2 mh2 n as _ xs rel2 (rv.mono f2) ras p2)
        · exact p1.elim
      | _ => exact p1.elim
  | _ => exact p1.elim
theorem e_meth {pl : Sem Bool} {j : Nat} {dv : List V} {ds : List Value} {dm : List MV} (hg : Way c g) (hK : X.K = c.K) (cl : Cls c.K (c.ca j)) (hm : Meth c.K (c.ca j) mn f) (F : FnG X.prog X.w X.K X.mg X.base (L2N.CX X.prog X.w) k f fd ps (spM c n m)) (hr : RoomG k X.A) (hb : Binds X.K fd ps ds) (hd : Vals dv ds) (hdm : ∀ ι β H, RepVs c.K ι β H dm dv) (tk : L2N.Takes X W)
    (ho : PE X o (tE c W ro)) (ha : PA X (e :: es) (tA c W rs))
    (hst : starEach (e :: es) X.env = (false, eval e X.env) :: starEach es X.env := by rfl) (hpl : (backTo pos (starEach es X.env)).any (·.1) = false := by rfl)
    (ht : eval (.Call (.Attribute o mn apos) (e :: es) [] pos) X.env = (do
      let ov ← eval o X.env
      standAt apos.atName
      let (f, first) ← holding [ov] (getMethod ov mn pl)
      callWith pos f first (backTo pos (starEach (e :: es) X.env)) (backToKw pos (keywordEach [] X.env))) := by rfl) :
    PE X (.Call (.Attribute o mn apos) (e :: es) [] pos) (tE c W (mMethC j mn ro rs fun v as h => g n m (v :: (as ++ dm)) h)) :=
  (pe_methG (C := c.ca j) ho (hK ▸ cl) (hK ▸ hm) F hr hb hd (L2N.passAt tk) ha hst hpl ht).wk fun σ H Q h =>
    meth_of (K := fun x vs H2 => spM c n m (x :: (vs ++ dv)) H2 Q (L2.WE W σ)) h (fun _ _ _ q => q) fun ι β H mh i as x xs rel rx ras p => by
      have rr : RepVs c.K ι β H (.ref i :: (as ++ dm)) (x :: (xs ++ dv)) := .cons rx (ras.append (hdm _ _ _))
      obtain ⟨hl, p2⟩ := hg n m ι β H mh _ _ _ _ rel rr p
      exact ⟨by rw [← rr.length]; exact hl, ι, β, mh, _, rel, rr, p2⟩
theorem e_meth0 {pl : Sem Bool} {j : Nat} {dv : List V} {ds : List Value} {dm : List MV} (hg : Way c g) (hK : X.K = c.K) (cl : Cls c.K (c.ca j)) (hm : Meth c.K (c.ca j) mn f) (F : FnG X.prog X.w X.K X.mg X.base (L2N.CX X.prog X.w) k f fd ps (spM c n m)) (hr : RoomG k X.A) (hb : Binds X.K fd ps ds) (hd : Vals dv ds) (hdm : ∀ ι β H, RepVs c.K ι β H dm dv) (tk : L2N.Takes X W)
    (ho : PE X o (tE c W ro))
    (ht : eval (.Call (.Attribute o mn apos) [] [] pos) X.env = (do
      let ov ← eval o X.env
      standAt apos.atName
      let (f, first) ← holding [ov] (getMethod ov mn pl)
      callWith pos f first (backTo pos (starEach [] X.env)) (backToKw pos (keywordEach [] X.env))) := by rfl) :
    PE X (.Call (.Attribute o mn apos) [] [] pos) (tE c W (mMethC j mn ro mNil fun v as h => g n m (v :: (as ++ dm)) h)) :=
  (pe_methG0 (C := c.ca j) ho (hK ▸ cl) (hK ▸ hm) F hr hb hd (L2N.passAt tk) ht).wk fun σ H Q h =>
    (meth_of (t := tNil) (K := fun x vs H2 => spM c n m (x :: (vs ++ dv)) H2 Q (L2.WE W σ)) h (fun _ H _ ⟨ι, β, mh, σm, rel, rl, p⟩ => p ι H [] .refl rel .nil) fun ι β H mh i as x xs rel rx ras p => by
      have rr : RepVs c.K ι β H (.ref i :: (as ++ dm)) (x :: (xs ++ dv)) := .cons rx (ras.append (hdm _ _ _))
      obtain ⟨hl, p2⟩ := hg n m ι β H mh _ _ _ _ rel rr p
      exact ⟨by rw [← rr.length]; exact hl, ι, β, mh, _, rel, rr, p2⟩)
end
end MP
namespace MP
open PySem PySem.Spec PyProof.Rows L2
section
variable {X : Cx} {c : C} {W : WX} {k n : Nat} {f : Addr} {fd : FuncData} {ps ks : List Str} {m : List MV → MH → R MV} {g : Nat → (List MV → MH → R MV) → List MV → MH → R MV} {x mn : Str} {p pos apos : Pos} {e o : Expr} {es : List Expr} {ro : EM} {rs rk : AM} {kws : List Keyword}
noncomputable def mMethK (j np nk : Nat) (mn : Str) (ro : EM) (rs rk : AM) (fn : List MV → MH → R MV) : EM := fun σ h => bindR (ro σ h) fun v h1 => match v with
  | .ref n => match h1[n]? with
    | some (.ins k fs) => if (Nat.beq k j && (fs.lookup mn).isNone) = true then bindR (rs σ h1) fun as h2 => bindR (rk σ h2) fun zs h3 => if (Nat.beq (as.length + 1) np && Nat.beq zs.length nk) = true then fn (v :: (as ++ zs)) h3 else .bad else .bad
    | _ => .bad
  | _ => .bad
theorem methK_of {j np nk : Nat} {fn : List MV → MH → R MV} {σ : St} {H : Hp} {Q : VK} {t : TA} {K : List V → Hp → Prop} (h : tE c W (mMethK j np nk mn ro rs rk fn) σ H Q) (ht : ∀ σ H Q, tA c W rs σ H Q → t σ H Q)
    (hK : ∀ ι β H mh as xs, Rel c ι β H mh → RepVs c.K ι β H as xs → Post c ι β H (RV c) Q (fun cls d H' => W cls d σ H') (fn as mh) → K xs H) :
    tE c W ro σ H fun x H1 => ∃ a dx fs, x = .ref a ∧ H1 a = some (.ins (c.ca j) dx fs) ∧ fs.lookup mn = none ∧ t σ H1 fun vs H2 => tA c W rk σ H2 fun zs H3 => vs.length + 1 = np ∧ zs.length = nk ∧ K (x :: vs ++ zs) H3 := by
  obtain ⟨ι, β, mh, σm, rel, rl, p⟩ := h
  refine (run1 rel rl p).mono fun x H1 ⟨ι1, mh1, v, f1, rel1, rl1, rv, p1⟩ => ?_
  cases v with
  | ref n =>
    simp only at p1
    cases eo : mh1[n]? with
    | none => simp only [eo] at p1; exact p1.elim
    | some ob =>
      simp only [eo] at p1
      cases ob with
      | ins k fs =>
        simp only at p1
        split at p1
        · rename_i hc
          rw [Bool.and_eq_true] at hc
          obtain rfl : k = j := Nat.eq_of_beq_eq_true hc.1
          have rv' := rv
          unfold RepV at rv'
          obtain ⟨a, rfl, ea⟩ := rv'
          obtain ⟨o2, e2, dx, l, hv, r⟩ := rel1.obj n _ eo
          rw [ea] at e2
          cases e2
          refine ⟨a, dx, l, rfl, hv, r.look.2 (by simpa using hc.2), ?_⟩
          refine ht _ _ _ ((run1 rel1 rl1 p1).mono fun xs H2 ⟨ι2, mh2, as, f2, rel2, rl2, ras, p2⟩ => ?_)
          refine (run1 rel2 rl2 p2).mono fun zs H3 ⟨ι3, mh3, bs, f3, rel3, rl3, rbs, p3⟩ => ?_
          split at p3
          · rename_i hl
            rw [Bool.and_eq_true] at hl
            refine ⟨by rw [← ras.length]; exact Nat.eq_of_beq_eq_true hl.1, by rw [← rbs.length]; exact Nat.eq_of_beq_eq_true hl.2, ?_⟩
            exact hK ι3 β H3 mh3 _ _ rel3 (.cons (rv.mono (f2.trans f3)) ((ras.mono f3).append rbs)) p3
          · exact p3.elim
        · exact p1.elim
      | _ => exact p1.elim
  | _ => exact p1.elim
theorem e_methK0 {pl : Sem Bool} {j np : Nat} {gg : List Value → List Value → List Value} (hg : Way c g) (hK : X.K = c.K) (cl : Cls c.K (c.ca j)) (hm : Meth c.K (c.ca j) mn f) (F : FnG X.prog X.w X.K X.mg X.base (L2N.CX X.prog X.w) k f fd ps (spM c n m)) (hr : RoomG k X.A) (hb : KBn X.K fd ps np ks gg (fun vs zs => vs ++ zs)) (tk : L2N.Takes X W)
    (ho : PE X o (tE c W ro)) (hkw : PK X kws (tA c W rk))
    (hall : (backToKw pos (keywordEach kws X.env)).all (·.1.isSome) = true := by rfl) (hks : (backToKw pos (keywordEach kws X.env)).filterMap (·.1) = ks := by rfl)
    (hpl : ((backTo pos (starEach [] X.env)).any (·.1) || (backToKw pos (keywordEach kws X.env)).any (·.1.isNone)) = false := by rfl)
    (ht : eval (.Call (.Attribute o mn apos) [] kws pos) X.env = (do
      let ov ← eval o X.env
      standAt apos.atName
      let (f, first) ← holding [ov] (getMethod ov mn pl)
      callWith pos f first (backTo pos (starEach [] X.env)) (backToKw pos (keywordEach kws X.env))) := by rfl) :
    PE X (.Call (.Attribute o mn apos) [] kws pos) (tE c W (mMethK j np ks.length mn ro mNil rk (g n m))) :=
  (pe_methGK0 (C := c.ca j) ho (hK ▸ cl) (hK ▸ hm) F hr hb (L2N.passAt tk) hkw hall hks hpl ht).wk fun σ H Q h =>
    methK_of (t := tNil) (K := fun vs H2 => spM c n m vs H2 Q (L2.WE W σ)) h (fun _ H _ ⟨ι, β, mh, σm, rel, rl, p⟩ => p ι H [] .refl rel .nil) fun ι β H mh as xs rel ras p => by
      obtain ⟨hl, p2⟩ := hg n m ι β H mh _ _ _ _ rel ras p
      exact ⟨by rw [← ras.length]; exact hl, ι, β, mh, _, rel, ras, p2⟩
/-- C(..) -/
noncomputable def mMake (j n : Nat) (m : List MV → MH → R MV) (as : List MV) (h : MH) : R MV := if as.length + 1 = n then match m (.ref h.length :: as) (h ++ [.ins j []]) with
  | .ok .non h' => .ok (.ref h.length) h'
  | .ex e h' => .ex e h'
  | _ => .bad
  else .bad
theorem e_make {j : Nat} (hK : X.K = c.K) (M : Mk c.K (c.ca j) f) (F : FnG X.prog X.w X.K X.mg X.base (L2N.CX X.prog X.w) k f fd ps (spM c n m)) (hr : RoomG (k + 1) X.A) (hgl : Gl X x) (hm : X.mg x = some (.ref (c.ca j))) (hb : Binds X.K fd ps []) (tk : L2N.Takes X W)
    (ha : PA X (e :: es) (tA c W rs)) (hdb : (x == ("__debug__" : Str)) = false := by decide) (he : starEach (e :: es) X.env = (false, eval e X.env) :: starEach es X.env := by rfl) (hpl : (backTo pos (starEach es X.env)).any (·.1) = false := by rfl) :
    PE X (.Call (.Name x p) (e :: es) [] pos) (tE c W (mN (mMake j n m) rs)) :=
  (pe_makeG (hK ▸ M) F hr hgl hm hb .nil (L2N.passAt tk) ha hdb he hpl).wk fun σ H Q ⟨ι, β, mh, σm, rel, rl, p⟩ => by
    refine (run1 rel rl p).mono fun xs H1 ⟨ι1, mh1, as, f1, rel1, rl1, ras, p1⟩ => ?_
    intro y dx hy hd ne
    unfold mMake at p1
    split at p1
    · rename_i hl
      have fa : Fr ι1 H1 ι1 (upd H1 dx (.own y)) := Fr.lay rel1 hd
      have ra := rel1.lay (o := .own y) hd
      have hy2 : upd H1 dx (.own y) y = none := by rw [upd_ne (fun z => ne z.symm)]; exact hy
      have fb : Fr ι1 (upd H1 dx (.own y)) (ι1 ++ [y]) (upd (upd H1 dx (.own y)) y (.ins (c.ca j) dx [])) := Fr.new ra hy2
      have rb : Rel c (ι1 ++ [y]) β (upd (upd H1 dx (.own y)) y (.ins (c.ca j) dx [])) (mh1 ++ [.ins j []]) := ra.new hy2 ⟨dx, [], upd_same, rfl⟩
      have f := fa.trans fb
      have ei : (ι1 ++ [y])[mh1.length]? = some y := by rw [rel1.len]; simp
      have rr : RepVs c.K (ι1 ++ [y]) β (upd (upd H1 dx (.own y)) y (.ins (c.ca j) dx [])) (.ref mh1.length :: as) (.ref y :: xs) := .cons (by unfold RepV; exact ⟨y, rfl, ei⟩) (ras.mono f)
      rw [List.append_nil]
      refine ⟨by rw [← rr.length]; exact hl, ι1 ++ [y], β, _, _, rb, rr, ?_⟩
      cases em : m (.ref mh1.length :: as) (mh1 ++ [.ins j []]) with
      | bad => simp only [em] at p1; exact p1.elim
      | ex z h' =>
        simp only [em] at p1
        exact fun ι' H' cls d f2 rel2 rx => p1 ι' H' cls d (f.trans f2) rel2 rx
      | ok v h' =>
        cases v with
        | non =>
          simp only [em] at p1
          intro ι' H' u f2 rel2 ru
          unfold RV RepV at ru
          exact ⟨ru, p1 ι' H' (.ref y) (f.trans f2) rel2 (by unfold RV RepV; exact ⟨y, rfl, f2.get ei⟩)⟩
        | _ => simp only [em] at p1; exact p1.elim
    · exact p1.elim
end
end MP
namespace MP
open PySem PySem.Spec PyProof.Rows PyProof.V L2
/-- items with what they read as -/
abbrev SIt := V × PyData
noncomputable def leS : SIt → SIt → Bool := PySem.W.dataLe false fun p => p.2
/-- what may be sorted -/
structure SOk (ds : List PyData) : Prop where
  al : PySem.W.AllAlike ds
  so : PySem.W.Sortable ds
  dp : ∀ d ∈ ds, d.depth ≤ 60
  ln : ds.length ≤ sizeLine
/-- what is gone through -/
noncomputable def CollV (K : PySem.W.Frag) (H : Hp) (a : Addr) (P : List V → Prop) : Prop :=
  (∃ xs, SqL K H a xs ∧ P xs) ∨ (∃ kvs : List (Key × V), Rd H a (.dK kvs) ∧ P (kvs.map fun p => kV p.1)) ∨
  ∃ kvs : List (List Key × V), Rd H a (.dT kvs) ∧ ∀ as : List Addr, Paired (fun (b : Addr) (p : List Key × V) => H b = some (.tup (p.1.map kV))) as kvs → P (as.map V.ref)
noncomputable def rSrt (K : PySem.W.Frag) : List V → Hp → VK → Prop := fun vs H Q => ∃ a, vs = [.ref a] ∧ CollV K H a fun xs => ∃ ds : List PyData, DpAll K H xs ds ∧ SOk ds ∧ ∀ l, H l = none → Q (.ref l) (upd H l (.lst (((xs.zip ds).mergeSort leS).map (·.1))))
section
variable {X : Cx} {pins : List (Addr × Obj)} {σ : St} {H : Hp} {s : Shared}
theorem zip_snd {α γ : Type} : ∀ {l : List α} {r : List γ}, l.length = r.length → (l.zip r).map (·.2) = r
  | [], [], _ => rfl
  | _ :: l, _ :: r, h => by rw [List.zip_cons_cons, List.map_cons, zip_snd (by simpa using h)]
  | [], _ :: _, h => by simp at h
  | _ :: _, [], h => by simp at h
theorem dpAll_len {K : PySem.W.Frag} : ∀ {ds : List PyData} {xs : List V}, DpAll K H xs ds → xs.length = ds.length
  | [], _, h => by cases h; rfl
  | _ :: ds, _, h => by cases h with | cons a b => rw [List.length_cons, List.length_cons, dpAll_len b]
theorem each_of (I : Inv X pins σ H s) : ∀ {ds : List PyData} {xs : List V} {us : List Value}, DpAll X.K H xs ds → Vals xs us → PySem.W.EachIs (fun (v : Value) (b : SIt) => RelV b.1 v ∧ ∃ as, Reads s.heap v b.2 as) us (xs.zip ds)
  | [], _, _, d, r => by
    cases d
    cases r
    exact .nil
  | d :: ds, _, _, h, r => by
    cases h with
    | cons a b =>
      cases r with
      | cons r1 r2 => exact .cons ⟨r1, Dp.reads I d _ _ a r1⟩ (each_of I b r2)
theorem vals_of_each : ∀ {us : List Value} {bs : List SIt}, PySem.W.EachIs (fun (v : Value) (b : SIt) => RelV b.1 v ∧ ∃ as, Reads s.heap v b.2 as) us bs → Vals (bs.map (·.1)) us
  | _, _, .nil => .nil
  | _, _, .cons r t => .cons r.1 (vals_of_each t)
mutual
theorem reads_at {h : Heap} : ∀ {v : Value} {d : PyData} {as : List Addr}, Reads h v d as → ∀ b ∈ as, ∃ o, h.get? b = some o
  | _, _, _, .none, b, hb => by simp at hb
  | _, _, _, .bool _, b, hb => by simp at hb
  | _, _, _, .int _ _, b, hb => by simp at hb
  | _, _, _, .str _ _, b, hb => by simp at hb
  | _, _, _, .list h1 _ _ h4, b, hb => by
    rcases List.mem_cons.mp hb with rfl | hb
    · exact ⟨_, h1⟩
    · exact readsAll_at h4 b hb
  | _, _, _, .tuple _ _ _ h4, b, hb => readsAll_at h4 b hb
  | _, _, _, .dict h1 _ _ h4 h5, b, hb => by
    rcases List.mem_append.mp hb with hb | hb
    · rcases List.mem_cons.mp hb with rfl | hb
      · exact ⟨_, h1⟩
      · exact readsAll_at h4 b hb
    · exact readsAll_at h5 b hb
theorem readsAll_at {h : Heap} : ∀ {vs : List Value} {ds : List PyData} {as : List Addr}, ReadsAll h vs ds as → ∀ b ∈ as, ∃ o, h.get? b = some o
  | _, _, _, .nil, b, hb => by simp at hb
  | _, _, _, .cons r1 r2, b, hb => by
    rcases List.mem_append.mp hb with hb | hb
    · exact reads_at r1 b hb
    · exact readsAll_at r2 b hb
end
/-- sorted of a list -/
theorem srt_list (hu : X.A.units + 65 < cLine) {Q : VK} {a : Addr} {xs : List V} {ds : List PyData} (I : Inv X pins σ H s) (hs : SqL X.K H a xs) (hd : DpAll X.K H xs ds) (ok : SOk ds) (q : ∀ l, H l = none → Q (.ref l) (upd H l (.lst (((xs.zip ds).mergeSort leS).map (·.1))))) :
    wpAny (model X.prog X.w) X.A (call (.builtin "sorted") [.ref a]) (EP X pins σ Q) X.xe s := by
  obtain ⟨its, rv, pl, hz⟩ := I.list hs
  have hl := dpAll_len hd
  have e := each_of I hd rv
  have es : (xs.zip ds).map (·.2) = ds := zip_snd hl
  have lz : (xs.zip ds).length = ds.length := by rw [List.length_zip, hl]; exact Nat.min_self _
  refine PySem.W.sorted_data (enc := fun p : SIt => p.2) (bs := xs.zip ds) (vs := its) pl.isList e (e.mono fun _ _ z => z.2) (by rw [es]; exact ok.al) (by rw [es]; exact ok.so) (by rw [lz]; exact ok.ln) (fun b hb => ?_) fun out h1 h2 => ?_
  · have := ok.dp b.2 (by rw [← es]; exact List.mem_map.mpr ⟨b, hb, rfl⟩)
    omega
  · obtain ⟨e', he'⟩ := sortedAll_at s.heap its (List.toArray out)
    have rv2 : Vals (((xs.zip ds).mergeSort leS).map (·.1)) out := vals_of_each h2
    have ll : (((xs.zip ds).mergeSort leS).map (·.1)).length ≤ sizeLine := by rw [List.length_map, List.length_mergeSort, lz]; exact ok.ln
    exact ⟨.ref (s.heap.objs.size + 1), _, I.laid (t' := s.toks) (fun b u q => sortedAll_old q) (Nat.le_succ _) (show ObjOk X.prog X.w _ _ _ (.lst _) from ⟨ll, out, e', rv2, he'⟩), rfl, q _ (I.hok.fresh (Nat.le_succ _))⟩
/-- .. of what is collected -/
theorem srt_coll (hu : X.A.units + 65 < cLine) {Q : VK} {r d : Addr} {n : Nat} {T : String} {Pv : Nat → Value → Prop} {OK : Heap → Prop} (Src : PySem.W.KdlSrc X.prog X.w T r d n Pv OK) (hc : X.calm = true) (I : Inv X pins σ H s) (ok0 : OK s.heap) (hn : n ≤ sizeLine)
    (q : ∀ us : List Value, us.length = n → (∀ (j : Nat) v, us[j]? = some v → Pv j v) → ∃ xs ds, Vals xs us ∧ DpAll X.K H xs ds ∧ SOk ds ∧ ∀ l, H l = none → Q (.ref l) (upd H l (.lst (((xs.zip ds).mergeSort leS).map (·.1))))) :
    wpAny (model X.prog X.w) X.A (call (.builtin "sorted") [.ref r]) (EP X pins σ Q) X.xe s := by
  refine Calls.call_function_entry PyProof.Rows.kind_sorted PyProof.Rows.plain_sorted PyProof.Rows.entry_sorted (PyProof.Rows.args_sorted1 _) ?_
  unfold Builtin.«sorted»
  refine wpAny_bind (m := checkCount "sorted" 1 1 _) (wpAny_pure ?_)
  refine wpAny_bind (PySem.W.kdu_collect (A := X.A.in1) Src (I.ok.hd hc) ok0 hn fun h' tk acc hk hacc => ?_)
  have hal : acc.toList.length = n := by rw [Array.length_toList, hacc.1]
  obtain ⟨xs, ds, rv, hd, ok, q2⟩ := q acc.toList hal fun j v e => hacc.2 j v (by rw [← Array.getElem?_toList]; exact e)
  have hl := dpAll_len hd
  have es : (xs.zip ds).map (·.2) = ds := zip_snd hl
  have lz : (xs.zip ds).length = ds.length := by rw [List.length_zip, hl]; exact Nat.min_self _
  have lu : acc.toList.length = ds.length := by rw [← rv.length, hl]
  have I1 : Inv X pins σ H { s with heap := h', toks := tk } := I.kept hk
  refine wpAny_bind (wpAny_newList ?_ (by rw [lu]; exact ok.ln))
  have hoL : (h'.push (seqObj "list" acc.toList.toArray 0)).get? h'.objs.size = some (seqObj "list" acc.toList.toArray 0) := Heap.get?_push_size _ rfl
  show wpAny _ _ _ _ _ { s with heap := h'.push (seqObj "list" acc.toList.toArray 0), toks := tk }
  have I2 : Inv X pins σ H { s with heap := h'.push (seqObj "list" acc.toList.toArray 0), toks := tk } := I1.kept (t' := tk) fun b ob e => Heap.get?_push_of_some _ e
  have e := each_of I1 hd rv
  have er : PySem.W.EachIs (fun (v : Value) (b : SIt) => ∃ as, Reads (h'.push (seqObj "list" acc.toList.toArray 0)) v b.2 as ∧ h'.objs.size ∉ as) acc.toList (xs.zip ds) := e.mono fun v b ⟨_, as, ra⟩ => ⟨as, PyProof.Rows.Reads.keeps (fun _ _ z => Heap.get?_push_of_some _ z) ra, fun z => by
    obtain ⟨o, eo⟩ := reads_at ra _ z
    exact absurd (Heap.lt_size eo) (Nat.lt_irrefl _)⟩
  refine wpAny_bind (wpAny_holding (PySem.W.list_sort_data (enc := fun p : SIt => p.2) (bs := xs.zip ds) (vs := acc.toList) (R := fun (v : Value) (b : SIt) => RelV b.1 v ∧ ∃ as, Reads h' v b.2 as) hoL e er (by rw [es]; exact ok.al) (by rw [es]; exact ok.so) (by rw [lz]; exact ok.ln) (fun b hb => ?_) fun out h1 h2 => ?_))
  · have := ok.dp b.2 (by rw [← es]; exact List.mem_map.mpr ⟨b, hb, rfl⟩)
    show X.A.units + 1 + 1 + _ < cLine
    omega
  · obtain ⟨e', he'⟩ := PyProof.Rows.sortedHeap_at (vs := acc.toList) (out := List.toArray out) hoL
    have rv2 : Vals (((xs.zip ds).mergeSort leS).map (·.1)) out := vals_of_each (s := { s with heap := h', toks := tk }) h2
    have ll : (((xs.zip ds).mergeSort leS).map (·.1)).length ≤ sizeLine := by rw [List.length_map, List.length_mergeSort, lz]; exact ok.ln
    refine wpAny_pure ⟨_, rfl, .ref h'.objs.size, upd H h'.objs.size (.lst _), I1.laid (t' := tk) (fun b u q => ?_) (Nat.le_refl _) (show ObjOk X.prog X.w _ _ _ (.lst _) from ⟨ll, out, e', rv2, he'⟩), rfl, q2 _ (I1.hok.fresh (Nat.le_refl _))⟩
    have hb : b < h'.objs.size := Heap.lt_size q
    rw [PyProof.Rows.sortedHeap_old (Nat.ne_of_lt hb) (by rw [size_push']; exact Nat.lt_succ_of_lt hb)]
    exact Heap.get?_push_of_some _ q
end
end MP
namespace MP
open PySem PySem.Spec PyProof.Rows PyProof.V L2
section
variable {X : Cx} {pins : List (Addr × Obj)} {σ : St} {H : Hp} {s : Shared}
theorem kt_keys : ∀ {kvs : List (List Key × V)} {xs : List (List Key × Addr × Value)}, L2.KT H kvs xs → Paired (fun (b : Addr) (p : List Key × V) => H b = some (.tup (p.1.map kV))) (xs.map fun q => q.2.1) kvs
  | _, _, .nil => .nil
  | _, _, .cons h t => .cons h.2.1 (kt_keys t)
theorem refs_vals : ∀ (as : List Addr), Vals (as.map V.ref) (as.map Value.ref)
  | [] => .nil
  | _ :: as => .cons rfl (refs_vals as)
theorem cr_srt (hc : X.calm = true) (hu : X.A.units + 65 < cLine) : CallR X (.builtin "sorted") (rSrt X.K) := by
  intro pins s σ H vs us Q I r h
  obtain ⟨a, rfl, h⟩ := h
  obtain ⟨u, rfl, rv⟩ : ∃ u, us = [u] ∧ RelV (.ref a) u := by
    cases r with
    | cons a b => cases b; exact ⟨_, rfl, a⟩
  obtain rfl : u = Value.ref a := rv
  rcases h with ⟨xs, hs, ds, hd, ok, q⟩ | ⟨kvs, hd0, ds, hd, ok, q⟩ | ⟨kvs, hd0, q⟩
  · exact srt_list hu I hs hd ok q
  · obtain ⟨z, lo, ws, rel, dd⟩ := dk_rd I.hok hd0
    obtain ⟨ep, hat⟩ := dd.dictAt
    have ek : (kvs.map fun kv => kV kv.1) = ws.map fun p => kV p.1 := by
      have e := congrArg (List.map kV) rel.keys
      rw [List.map_map, List.map_map] at e
      exact e
    refine srt_coll hu (PySem.W.kdl_dict (knd := mixKind X.prog X.w) (kvs := ws) (ep := ep) lo) hc I hat (by rw [← rel.length]; exact z) fun us l hv => ?_
    have rr : Vals (ws.map fun p => kV p.1) us := keys_at l hv
    exact ⟨_, ds, rr, by rw [← ek]; exact hd, ok, by rw [← ek]; exact q⟩
  · obtain ⟨z, lo, xs, rel, o, es, ep, h1, h2, h3, h4, h5⟩ := dt_rd I.hok hd0
    have lx : es.size = xs.length := by have := congrArg List.length h4; simpa using this
    refine srt_coll hu (KdlSrc.rawDict (es := es) (ep := ep) lo) hc I ⟨o, h1, h2, h3⟩ (by rw [lx, ← Paired.length rel]; exact z) fun us l hv => ?_
    obtain ⟨ds, hd, ok, q⟩ := q _ (kt_keys rel)
    have eu : us = (xs.map fun q => q.2.1).map Value.ref := by
      refine List.ext_getElem? fun j => ?_
      rw [List.map_map, List.getElem?_map]
      cases ej : us[j]? with
      | none =>
        have : us.length ≤ j := List.getElem?_eq_none_iff.mp ej
        rw [List.getElem?_eq_none (by omega)]; rfl
      | some v =>
        obtain ⟨hi, ev⟩ := hv j v ej
        have hx : es.toList[j]? = some es[j] := by simp [hi]
        rw [h4, List.getElem?_map] at hx
        cases ex : xs[j]? with
        | none => rw [ex] at hx; simp at hx
        | some p =>
          rw [ex] at hx
          simp only [Option.map_some, Option.some.injEq] at hx
          rw [ev, ← hx]; rfl
    exact ⟨_, ds, by rw [eu]; exact refs_vals _, hd, ok, q⟩
end
noncomputable def asTD (v : MV) (h : MH) : Option (List (MV × MV)) := match v with
  | .ref n => match h[n]? with
    | some (.dtt l) => some l
    | some (.fdt l) => some l
    | _ => none
  | _ => none
section
variable {c : C} {ι β : List Addr} {H : Hp} {mh : MH}
theorem asTD_rep {v : MV} {kvs : List (MV × MV)} {x : V} (e : asTD v mh = some kvs) (rel : Rel c ι β H mh) (rv : RepV c.K ι β H v x) : ∃ a l, x = .ref a ∧ Rd H a (.dT l) ∧ RepTV c.K ι β H kvs l := by
  cases v with
  | ref n =>
    unfold asTD at e
    simp only at e
    unfold RepV at rv
    obtain ⟨a, rfl, ea⟩ := rv
    obtain ⟨o, eo, ro⟩ := rel.at ea
    rw [eo] at e
    cases o with
    | dtt l => cases e; obtain ⟨l', q, r⟩ := ro; exact ⟨a, l', rfl, .inl q, r⟩
    | fdt l => cases e; obtain ⟨od, l', q, r⟩ := ro; exact ⟨a, l', rfl, .inr ⟨od, q⟩, r⟩
    | _ => cases e
  | _ => cases e
theorem mkeys_rep : ∀ {l : List MV} {ks : List Key}, mkeys l = some ks → RepVs c.K ι β H l (ks.map kV)
  | [], ks, e => by cases e; exact .nil
  | a :: l, ks, e => by
    unfold mkeys at e
    cases ea : mkey a with
    | none => simp only [ea] at e; cases e
    | some k =>
      simp only [ea] at e
      cases el : mkeys l with
      | none => simp only [el] at e; cases e
      | some r =>
        simp only [el, Option.some.injEq] at e
        subst e
        refine .cons ?_ (mkeys_rep el)
        cases a with
        | int i => cases ea; exact rint _ _ _
        | str z => cases ea; exact rstr _ _ _
        | _ => cases ea
/-- a tracked key's tuple -/
theorem key_tup (rel : Rel c ι β H mh) {k : MV} {ks : List Key} {b : Addr} (e : tkey k = some ks) (hb : H b = some (.tup (ks.map kV))) : RepV c.K ι β H k (.ref b) := by
  cases k with
  | tup l =>
    unfold RepV
    refine ⟨b, _, rfl, .inl ⟨hb, fun z => ?_, fun z => ?_⟩, mkeys_rep e⟩
    · obtain ⟨n, hn, en⟩ := List.getElem_of_mem z
      obtain ⟨o, _, q⟩ := rel.at (n := n) (a := b) (by rw [List.getElem?_eq_getElem hn, en])
      cases o with
      | lst l => obtain ⟨vs, e1, _⟩ := q; rw [hb] at e1; cases e1
      | dct l => obtain ⟨vs, e1, _⟩ := q; rw [hb] at e1; cases e1
      | fdc l => obtain ⟨o, vs, e1, _⟩ := q; rw [hb] at e1; cases e1
      | odc _ _ _ _ => obtain ⟨_, _, _, _, _, _, e1, _⟩ := q; rw [hb] at e1; cases e1
      | dtt l => obtain ⟨vs, e1, _⟩ := q; rw [hb] at e1; cases e1
      | fdt l => obtain ⟨o, vs, e1, _⟩ := q; rw [hb] at e1; cases e1
      | ins n fs => obtain ⟨dx, l, e1, _⟩ := q; rw [hb] at e1; cases e1
    · obtain ⟨o, e1, _, nf⟩ := rel.ban b z
      rw [hb] at e1
      cases e1
      exact nf.2 _ rfl
  | _ => cases e
theorem keysT_rep (rel : Rel c ι β H mh) : ∀ {kvs : List (MV × MV)} {l : List (List Key × V)} {as : List Addr}, RepTV c.K ι β H kvs l → Paired (fun (b : Addr) (p : List Key × V) => H b = some (.tup (p.1.map kV))) as l → RepVs c.K ι β H (kvs.map (·.1)) (as.map V.ref)
  | [], l, as, r, pr => by
    have e : l = [] := r
    subst e
    cases pr
    exact .nil
  | (k, m) :: kvs, l, as, r, pr => by
    obtain ⟨k', v, l', rfl, ek, rv, t⟩ := r
    cases pr with
    | cons h1 h2 => exact .cons (key_tup rel ek h1) (keysT_rep rel t h2)
theorem keysK_rep : ∀ {kvs : List (MV × MV)} {l : List (Key × V)}, RepKV c.K ι β H kvs l → RepVs c.K ι β H (kvs.map (·.1)) (l.map fun p => kV p.1)
  | [], l, r => by
    have e : l = [] := r
    subst e
    exact .nil
  | (k, m) :: kvs, l, r => by
    obtain ⟨k', v, l', rfl, ek, rv, t⟩ := r
    refine .cons ?_ (keysK_rep t)
    cases k with
    | int i => cases ek; exact rint _ _ _
    | str z => cases ek; exact rstr _ _ _
    | _ => cases ek
noncomputable def collM (v : MV) (h : MH) : Option (List MV) := match asL v h with
  | some l => some l
  | none => match v with
    | .fz l => some l
    | v => match asD v h with
      | some kvs => some (kvs.map (·.1))
      | none => match asTD v h with
        | some kvs => some (kvs.map (·.1))
        | none => none
theorem coll_rep {v : MV} {l : List MV} {x : V} {P : List V → Prop} (e : collM v mh = some l) (rel : Rel c ι β H mh) (rv : RepV c.K ι β H v x) (q : ∀ xs, RepVs c.K ι β H l xs → P xs) : ∃ a, x = .ref a ∧ CollV c.K H a P := by
  unfold collM at e
  cases el : asL v mh with
  | some l' =>
    rw [el] at e
    cases e
    obtain ⟨a, vs, rfl, sq, r⟩ := asL_rep el rel rv
    exact ⟨a, rfl, .inl ⟨vs, .inl (.inl sq), q vs r⟩⟩
  | none =>
    rw [el] at e
    simp only at e
    split at e
    · cases e
      obtain ⟨a, vs, rfl, sq, r⟩ := rv.fz_iff
      exact ⟨a, rfl, .inl ⟨vs, sq, q vs r⟩⟩
    · cases ed : asD v mh with
      | some kvs =>
        rw [ed] at e
        cases e
        obtain ⟨a, l, o, rfl, ho, iv, r⟩ := asD_rep ed rel rv
        exact ⟨a, rfl, .inr (.inl ⟨l, rd_of_dv ho iv, q _ (keysK_rep r)⟩)⟩
      | none =>
        rw [ed] at e
        simp only at e
        cases et : asTD v mh with
        | some kvs =>
          rw [et] at e
          cases e
          obtain ⟨a, l, rfl, rd, r⟩ := asTD_rep et rel rv
          exact ⟨a, rfl, .inr (.inr ⟨l, rd, fun as pr => q _ (keysT_rep rel r pr)⟩)⟩
        | none => rw [et] at e; cases e
abbrev MIt := MV × PyData
noncomputable def leM : MIt → MIt → Bool := PySem.W.dataLe false fun p => p.2
noncomputable def sortMD (l : List MV) (ds : List PyData) : List MV := ((l.zip ds).mergeSort leM).map (·.1)
noncomputable def isTup1 : PyData → Bool
  | .tuple (_ :: _) => true
  | _ => false
noncomputable def isNT : PyData → Bool
  | .none => false
  | .tuple _ => false
  | _ => true
noncomputable def sokB (ds : List PyData) : Bool := (ds.all fun d => ds.all fun e => PySem.W.alike d e) && ((ds.all isTup1 || ds.all isNT) && ((ds.all fun d => decide (d.depth ≤ 60)) && decide (ds.length ≤ SZ)))
theorem sok_of {ds : List PyData} (h : sokB ds = true) : SOk ds := by
  unfold sokB at h
  simp only [Bool.and_eq_true, Bool.or_eq_true, List.all_eq_true, decide_eq_true_eq] at h
  obtain ⟨h1, h2, h3, h4⟩ := h
  refine ⟨fun d hd e he => h1 d hd e he, ?_, h3, by rw [sz_eq]; exact h4⟩
  rcases h2 with h2 | h2
  · refine .inl fun d hd => ?_
    have := h2 d hd
    unfold isTup1 at this
    split at this
    · exact ⟨_, _, rfl⟩
    · cases this
  · refine .inr fun d hd => ?_
    have := h2 d hd
    refine ⟨fun z => ?_, fun xs z => ?_⟩
    · subst z; cases this
    · subst z; cases this
theorem sorted_rep : ∀ {l : List MV} {xs : List V} {ds : List PyData}, RepVs c.K ι β H l xs → l.length = ds.length → RepVs c.K ι β H (sortMD l ds) (((xs.zip ds).mergeSort leS).map (·.1)) := by
  intro l xs ds r hl
  have hx : xs.length = ds.length := by rw [← r.length]; exact hl
  have e1 : l.zip ds = ((l.zip xs).zip ds).map fun p => (p.1.1, p.2) := by
    clear r
    induction ds generalizing l xs with
    | nil => simp
    | cons d ds ih =>
      cases l with
      | nil => simp at hl
      | cons a l =>
        cases xs with
        | nil => simp at hx
        | cons b xs =>
          simp only [List.zip_cons_cons, List.map_cons]
          rw [ih (by simpa using hl) (by simpa using hx)]
  have e2 : xs.zip ds = ((l.zip xs).zip ds).map fun p => (p.1.2, p.2) := by
    clear r e1
    induction ds generalizing l xs with
    | nil => simp
    | cons d ds ih =>
      cases l with
      | nil => simp at hl
      | cons a l =>
        cases xs with
        | nil => simp at hx
        | cons b xs =>
          simp only [List.zip_cons_cons, List.map_cons]
          rw [ih (by simpa using hl) (by simpa using hx)]
  let le3 : (MV × V) × PyData → (MV × V) × PyData → Bool := PySem.W.dataLe false fun p => p.2
  have m1 := List.map_mergeSort (r := le3) (s := leM) (f := fun p : (MV × V) × PyData => (p.1.1, p.2)) (l := (l.zip xs).zip ds) fun _ _ _ _ => rfl
  have m2 := List.map_mergeSort (r := le3) (s := leS) (f := fun p : (MV × V) × PyData => (p.1.2, p.2)) (l := (l.zip xs).zip ds) fun _ _ _ _ => rfl
  unfold sortMD
  rw [e1, e2, ← m1, ← m2, List.map_map, List.map_map]
  have all : ∀ p ∈ (l.zip xs).zip ds, RepV c.K ι β H p.1.1 p.1.2 := by
    intro p hp
    have h1 : p.1 ∈ l.zip xs := (List.of_mem_zip hp).1
    obtain ⟨i, hi, ei⟩ := List.getElem_of_mem h1
    have gz : (l.zip xs)[i]? = some p.1 := by rw [List.getElem?_eq_getElem hi, ei]
    obtain ⟨g1, g2⟩ := List.getElem?_zip_eq_some.mp gz
    obtain ⟨v, ev, rv⟩ := r.get g1
    rw [g2] at ev
    cases ev
    exact rv
  have all2 : ∀ p ∈ ((l.zip xs).zip ds).mergeSort le3, RepV c.K ι β H p.1.1 p.1.2 := fun p hp => all p ((List.mergeSort_perm _ _).mem_iff.mp hp)
  generalize ((l.zip xs).zip ds).mergeSort le3 = z at all2
  induction z with
  | nil => exact .nil
  | cons p z ih => exact .cons (all2 p List.mem_cons_self) (ih fun q hq => all2 q (List.mem_cons_of_mem _ hq))
noncomputable def mSrt (fin : List MV → MH → R MV) (as : List MV) (h : MH) : R MV := match as with
  | [v] => match collM v h with
    | some l => match mapO (toD h 12) l with
      | some ds => if sokB ds = true then fin (sortMD l ds) h else .bad
      | none => .bad
    | none => .bad
  | _ => .bad
theorem mapO_len {α γ : Type} {f : α → Option γ} {l : List α} {r : List γ} (e : mapO f l = some r) : l.length = r.length := (mapO_get e).1
theorem p_srt {fin : List MV → MH → R MV} (hf : FinN c fin) : PN c (rSrt c.K) (mSrt fin) := fun ι β H mh as xs Q W rel ra p => by
  unfold mSrt at p
  split at p
  · rename_i v
    obtain ⟨x, rfl, rv⟩ := Vs1 ra
    cases el : collM v mh with
    | none => simp only [el] at p; exact p.elim
    | some l =>
      simp only [el] at p
      cases ed : mapO (toD mh 12) l with
      | none => simp only [ed] at p; exact p.elim
      | some ds =>
        simp only [ed] at p
        split at p
        · rename_i ok
          obtain ⟨a, rfl, q⟩ := coll_rep (P := fun xs => ∃ ds : List PyData, DpAll c.K H xs ds ∧ SOk ds ∧ ∀ l, H l = none → Q (.ref l) (upd H l (.lst (((xs.zip ds).mergeSort leS).map (·.1))))) el rel rv fun xs r =>
            ⟨ds, mapO_dp (fun m d v e r => toD_dp rel _ _ _ _ e r) ed r, sok_of ok, fun l hl => hf ι β H mh _ _ l Q W rel (sorted_rep r (mapO_len ed)) hl p⟩
          exact ⟨a, rfl, q⟩
        · exact p.elim
  · exact p.elim
end
end MP
namespace MP
open PySem PySem.Spec PyProof.Rows PyProof.V L2
theorem mkey_inj {k y : MV} {a : Key} (h1 : mkey k = some a) (h2 : mkey y = some a) : k = y := by
  cases k <;> cases y <;> simp only [mkey, Option.some.injEq] at h1 h2 <;> try cases h1
  all_goals try cases h2
  all_goals rfl
theorem mkeys_inj : ∀ {l r : List MV} {a : List Key}, mkeys l = some a → mkeys r = some a → l = r
  | [], [], _, _, _ => rfl
  | [], y :: r, a, h1, h2 => by
    cases h1
    unfold mkeys at h2
    split at h2
    · split at h2 <;> cases h2
    · cases h2
  | x :: l, [], a, h1, h2 => by
    cases h2
    unfold mkeys at h1
    split at h1
    · split at h1 <;> cases h1
    · cases h1
  | x :: l, y :: r, a, h1, h2 => by
    unfold mkeys at h1 h2
    cases ex : mkey x with
    | none => simp only [ex] at h1; cases h1
    | some kx =>
      cases ey : mkey y with
      | none => simp only [ey] at h2; cases h2
      | some ky =>
        simp only [ex] at h1
        simp only [ey] at h2
        cases el : mkeys l with
        | none => simp only [el] at h1; cases h1
        | some kl =>
          cases er : mkeys r with
          | none => simp only [er] at h2; cases h2
          | some kr =>
            simp only [el, Option.some.injEq] at h1
            simp only [er, Option.some.injEq] at h2
            rw [← h2] at h1
            cases h1
            rw [mkey_inj ex ey, mkeys_inj el er]
theorem tkey_beq {k y : MV} {a b : List Key} (h1 : tkey k = some a) (h2 : tkey y = some b) : beqV k y = decide (a = b) := by
  cases k with
  | tup l =>
    cases y with
    | tup r =>
      have h1 : mkeys l = some a := h1
      have h2 : mkeys r = some b := h2
      by_cases z : a = b
      · subst z
        rw [mkeys_inj h1 h2, beqV_self, decide_eq_true rfl]
      · rw [decide_eq_false z]
        cases e : beqV (.tup l) (.tup r) with
        | false => rfl
        | true =>
          have := beqV_eq e
          cases this
          rw [h1] at h2
          cases h2
          exact absurd rfl z
    | _ => cases h2
  | _ => cases h1
/-- (text, number) -/
noncomputable def isK2 : MV → Bool
  | .tup [.str _, .int _] => true
  | _ => false
section
variable {c : C} {X : Cx} {W : WX} {ι β : List Addr} {H : Hp}
theorem k2_shape {y : MV} (h : isK2 y = true) : ∃ x i, y = .tup [.str x, .int i] ∧ tkey y = some [.inr x, .inl i] := by
  unfold isK2 at h
  split at h
  · exact ⟨_, _, rfl, rfl⟩
  · cases h
theorem k2_rep {y : MV} {v : V} (h : isK2 y = true) (r : RepV c.K ι β H y v) : ∃ ks b, tkey y = some ks ∧ v = .ref b ∧ H b = some (.tup (ks.map kV)) := by
  obtain ⟨x, i, rfl, ek⟩ := k2_shape h
  unfold RepV at r
  obtain ⟨b, vs, rfl, q, rr⟩ := r
  obtain ⟨v1, r1, rfl, q1, t1⟩ := rr.cons_iff
  obtain ⟨v2, r2, rfl, q2, t2⟩ := t1.cons_iff
  cases t2.nil_iff
  rw [rs q1, ri q2] at q
  rcases q with ⟨q, _⟩ | ⟨_, np⟩
  · exact ⟨_, b, ek, rfl, q⟩
  · exact absurd rfl (np x i)
theorem look_repT {y : MV} {b : List Key} (hy : tkey y = some b) : ∀ {kvs : List (MV × MV)} {l : List (List Key × V)}, RepTV c.K ι β H kvs l →
    (∀ m, lookKV kvs y = some m → ∃ v, valV l b = some v ∧ RepV c.K ι β H m v) ∧ (lookKV kvs y = none → valV l b = none)
  | [], l, h => by
    have e : l = [] := h
    subst e
    exact ⟨fun m e => (by cases e), fun _ => rfl⟩
  | (k, m) :: r, l, h => by
    obtain ⟨k', v, r', rfl, ek, q, t⟩ := h
    obtain ⟨i1, i2⟩ := look_repT hy t
    have eb := tkey_beq ek hy
    unfold lookKV
    rw [eb]
    by_cases z : k' = b
    · rw [if_pos (decide_eq_true z)]
      exact ⟨fun m' e => (by cases e; exact ⟨v, valV_pos z, q⟩), fun e => (by cases e)⟩
    · rw [if_neg (by simp [z])]
      exact ⟨fun m' e => (by rw [valV_neg z]; exact i1 m' e), fun e => (by rw [valV_neg z]; exact i2 e)⟩
theorem put_repTA {y : MV} {b : List Key} {mv : MV} {v : V} (hy : tkey y = some b) (hv : RepV c.K ι β H mv v) : ∀ {kvs : List (MV × MV)} {l : List (List Key × V)}, RepTV c.K ι β H kvs l → nodK kvs = true → RepTV c.K ι β H (putKV kvs y mv) (if (l.any fun kv => decide (kv.1 = b)) = true then l.map (fun kv => if kv.1 = b then (kv.1, v) else kv) else l ++ [(b, v)])
  | [], l, h, _ => by
    have e : l = [] := h
    subst e
    exact ⟨b, v, [], rfl, hy, hv, rfl⟩
  | (k, m) :: r, l, h, hn => by
    obtain ⟨k', w, r', rfl, ek, q, t⟩ := h
    unfold nodK at hn
    rw [Bool.and_eq_true] at hn
    have eb := tkey_beq ek hy
    unfold putKV
    rw [eb]
    by_cases z : k' = b
    · subst z
      rw [if_pos (by simp), if_pos (by simp)]
      refine ⟨k', v, r', ?_, ek, hv, t⟩
      have hno : valV r' k' = none := (look_repT ek t).2 (by simpa using hn.1)
      have hx : ∀ p ∈ r', ¬ p.1 = k' := fun p hp e => by
        have := valV_any k' r'
        rw [hno] at this
        simp only [Option.isSome_none, List.any_eq_false, decide_eq_true_eq] at this
        exact this p hp e
      simp only [List.map_cons, if_true]
      congr 1
      have : ∀ (s : List (List Key × V)), (∀ p ∈ s, ¬ p.1 = k') → s.map (fun kv => if kv.1 = k' then (kv.1, v) else kv) = s := by
        intro s
        induction s with
        | nil => intro _; rfl
        | cons p s ih =>
          intro h
          rw [List.map_cons, if_neg (h p List.mem_cons_self), ih fun q hq => h q (List.mem_cons_of_mem _ hq)]
      exact this r' hx
    · rw [if_neg (by simp [z])]
      have ih := put_repTA hy hv t hn.2
      by_cases hany : (r'.any fun kv => decide (kv.1 = b)) = true
      · rw [if_pos hany] at ih
        rw [if_pos (by simp only [List.any_cons, hany, Bool.or_true])]
        simp only [List.map_cons, if_neg z]
        exact ⟨k', w, _, rfl, ek, q, ih⟩
      · rw [if_neg hany] at ih
        rw [if_neg (by simp only [List.any_cons, Bool.or_eq_true, decide_eq_true_eq]; rintro (h | h); exact z h; exact hany h)]
        exact ⟨k', w, _, rfl, ek, q, ih⟩
theorem put_repT {y : MV} {b : List Key} {mv : MV} {v : V} (hy : tkey y = some b) (hv : RepV c.K ι β H mv v) {kvs : List (MV × MV)} {l : List (List Key × V)} (h : RepTV c.K ι β H kvs l) (hn : nodK kvs = true) : RepTV c.K ι β H (putKV kvs y mv) (putK l b v) := by
  unfold putK
  exact put_repTA hy hv h hn
theorem RepTV.length : ∀ {kvs : List (MV × MV)} {l : List (List Key × V)}, RepTV c.K ι β H kvs l → kvs.length = l.length
  | [], l, h => by have e : l = [] := h; subst e; rfl
  | (k, m) :: r, l, h => by
    obtain ⟨k', v, r', rfl, ek, q, t⟩ := h
    simp [RepTV.length t]
noncomputable def mInT (neg : Bool) (a b : MV) (h : MH) : R MV := match asTD b h with
  | some kvs => if isK2 a = true then .ok (.bl (if neg then !(lookKV kvs a).isSome else (lookKV kvs a).isSome)) h else .bad
  | none => .bad
theorem p_inT (neg : Bool) : P2 c (rDInX neg) (mInT neg) := fun ι β H mh a b x y Q W rel ra rb p => by
  unfold mInT at p
  cases ed : asTD b mh with
  | none => simp only [ed] at p; exact p.elim
  | some kvs =>
    simp only [ed] at p
    split at p
    · rename_i hk
      obtain ⟨d, l, rfl, rd, r⟩ := asTD_rep ed rel rb
      obtain ⟨ks, t, ek, rfl, ht⟩ := k2_rep hk ra
      obtain ⟨l1, l2⟩ := look_repT ek r
      have e : (valV l ks).isSome = (lookKV kvs a).isSome := by
        cases el : lookKV kvs a with
        | none => rw [l2 el]; rfl
        | some m => obtain ⟨v, ev, _⟩ := l1 m el; rw [ev]; rfl
      refine ⟨d, valV l ks, rfl, .inr ⟨l, ks, t, rd, rfl, ht, rfl⟩, ?_⟩
      rw [e]
      exact p ι H _ .refl rel (rbl _ _ _)
    · exact p.elim
noncomputable def mInCX (neg : Bool) (a b : MV) (h : MH) : R MV := if (asTD b h).isSome = true then mInT neg a b h else mInX neg a b h
noncomputable def mInC := mInCX false
noncomputable def mNotInC := mInCX true
noncomputable def rInC (K : PySem.W.Frag) (neg : Bool) : R2 := fun x y H Q => rDInX neg x y H Q ∨ rLInX K neg x y H Q
theorem op_inC (hu : X.A.units + 65 < cLine) : OpR X (compareOp .In) (rInC X.K false) := op_inA hu
theorem op_notInC (hu : X.A.units + 65 < cLine) : OpR X (compareOp .NotIn) (rInC X.K true) := op_notInA hu
theorem p_inCX (neg : Bool) : P2 c (rInC c.K neg) (mInCX neg) := fun ι β H mh a b x y Q W rel ra rb p => by
  unfold mInCX at p
  split at p
  · exact .inl (p_inT neg ι β H mh a b x y Q W rel ra rb p)
  · exact p_inX neg ι β H mh a b x y Q W rel ra rb p
theorem p_inC : P2 c (rInC c.K false) mInC := p_inCX false
theorem p_notInC : P2 c (rInC c.K true) mNotInC := p_inCX true
noncomputable def sSetQx (rv ro ri : EM) : SM := fun σ h => bindS (rv σ h) σ fun v h1 => bindS (ro σ h1) σ fun o h2 => bindS (ri σ h2) σ fun i h3 => match o with
  | .ref n => match h3[n]? with
    | some (.dct kvs) => match mkey i with
      | some _ => if (decide (kvs.length < SZ) && nodK kvs) = true then .nx σ (setH h3 n (.dct (putKV kvs i v))) else .bad
      | none => .bad
    | some (.dtt kvs) => if (isK2 i && (decide (kvs.length < SZ) && nodK kvs)) = true then .nx σ (setH h3 n (.dtt (putKV kvs i v))) else .bad
    | _ => .bad
  | _ => .bad
theorem sSetQx_of {rv ro ri : EM} {D : Ends} {σ : St} {H : Hp} (h : tS c W (sSetQx rv ro ri) D σ H) : sDPut (tE c W ro) (tE c W ri) (tE c W rv) D σ H := by
  obtain ⟨ι, β, mh, σm, rel, rl, q⟩ := h
  refine (run1S rel rl q).mono fun v H1 ⟨ι1, mh1, m, f1, rel1, rl1, rm, p1⟩ => ?_
  refine (run1S rel1 rl1 p1).mono fun x H2 ⟨ι2, mh2, mo, f2, rel2, rl2, rmo, p2⟩ => ?_
  refine (run1S rel2 rl2 p2).mono fun y H3 ⟨ι3, mh3, mi, f3, rel3, rl3, rmi, p3⟩ => ?_
  cases mo with
  | ref n =>
    simp only at p3
    cases eo : mh3[n]? with
    | none => simp only [eo] at p3; exact p3.elim
    | some ob =>
      simp only [eo] at p3
      have rmo' := rmo.mono f3
      unfold RepV at rmo'
      obtain ⟨b, rfl, ea⟩ := rmo'
      obtain ⟨o2, e2, ro⟩ := rel3.at ea
      rw [eo] at e2; cases e2
      cases ob with
      | dct kvs =>
        simp only at p3
        cases ek : mkey mi with
        | none => simp only [ek] at p3; exact p3.elim
        | some k =>
          simp only [ek] at p3
          split at p3
          · rename_i hh
            simp only [Bool.and_eq_true, decide_eq_true_eq] at hh
            obtain ⟨l, hv, r⟩ := ro
            rw [mkey_rep ek rmi]
            refine ⟨b, _, rfl, DPut.k hv (by rw [← r.length, sz_eq]; exact hh.1), ?_⟩
            have nf : ∀ o u, H3 b ≠ some (.frz o u) := fun o u z => by rw [hv] at z; cases z
            have f := Fr.put (o := .dK (putK l k v)) ea nf
            exact p3 ι3 _ _ f (rel3.put ea nf ⟨_, upd_same, (put_rep ek ((rm.mono f2).mono f3) r hh.2).move f.mov⟩) (rl3.mono f)
          · exact p3.elim
      | dtt kvs =>
        simp only at p3
        split at p3
        · rename_i hh
          simp only [Bool.and_eq_true, decide_eq_true_eq] at hh
          obtain ⟨l, hv, r⟩ := ro
          obtain ⟨ks, t, ek, rfl, ht⟩ := k2_rep hh.1 rmi
          refine ⟨b, _, rfl, DPut.t hv ht (by rw [← r.length, sz_eq]; exact hh.2.1), ?_⟩
          have nf : ∀ o u, H3 b ≠ some (.frz o u) := fun o u z => by rw [hv] at z; cases z
          have f := Fr.put (o := .dT (putK l ks v)) ea nf
          exact p3 ι3 _ _ f (rel3.put ea nf ⟨_, upd_same, (put_repT ek ((rm.mono f2).mono f3) r hh.2.2).move f.mov⟩) (rl3.mono f)
        · exact p3.elim
      | _ => exact p3.elim
  | _ => exact p3.elim
noncomputable def isDQ (v : MV) (h : MH) : Bool := match v with
  | .ref n => match h[n]? with
    | some (.dct _) => true
    | some (.dtt _) => true
    | _ => false
  | _ => false
noncomputable def sSetC (rv ro ri : EM) : SM := fun σ h => bindS (rv σ h) σ fun v h1 => bindS (ro σ h1) σ fun o h2 => bindS (ri σ h2) σ fun i h3 =>
  if isDQ o h3 = true then sSetQx (fun _ _ => .ok v h3) (fun _ _ => .ok o h3) (fun _ _ => .ok i h3) σ h3 else sSetIx (fun _ _ => .ok v h3) (fun _ _ => .ok o h3) (fun _ _ => .ok i h3) σ h3
theorem s_setC {o i e : Expr} {rv ro ri : EM} {p pos : Pos} (hu : X.A.units + 1 < cLine) (he : PE X e (tE c W rv)) (ho : PE X o (tE c W ro)) (hi : PE X i (tE c W ri))
    (ha : ∀ v, assign (.Subscript o i p) X.env v = (do
      let ov ← holding [v] (eval o X.env)
      let iv ← holding [v, ov] (eval i X.env)
      standAt p
      holding [v, ov, iv] (setItem ov iv v)
      release [v, ov, iv] []) := by intro _; rfl)
    (hs' : swapsWith e (some (.Subscript o i p)) pos.line X.env = pure false := by rfl)
    (hs : swapsWithSole [.Subscript o i p] e pos.line X.env = pure false := by rfl) (hw : swappedStores [.Subscript o i p] e X.env = pure none := by rfl)
    (h1 : (assignEach [.Subscript o i p] X.env).map (·.2) = [assign (.Subscript o i p) X.env] := by rfl) : PS X (.Assign [.Subscript o i p] e pos) (tS c W (sSetC rv ro ri)) :=
  (PS.or (ps_dput hu ho hi he hs') (s_setL he ho hi ha hs hw h1)).wk fun D σ H ⟨ι, β, mh, σm, rel, rl, q⟩ => by
    have key : ∃ d : Bool, sSetC rv ro ri σm mh = if d = true then sSetQx rv ro ri σm mh else sSetIx rv ro ri σm mh := by
      unfold sSetC
      cases e1 : rv σm mh with
      | bad => exact ⟨true, by simp [sSetQx, e1, bindS]⟩
      | ex x h1 => exact ⟨true, by simp [sSetQx, e1, bindS]⟩
      | ok v h1 =>
        simp only [bindS]
        cases e2 : ro σm h1 with
        | bad => exact ⟨true, by simp [sSetQx, e1, e2, bindS]⟩
        | ex x h1 => exact ⟨true, by simp [sSetQx, e1, e2, bindS]⟩
        | ok o h2 =>
          simp only
          cases e3 : ri σm h2 with
          | bad => exact ⟨true, by simp [sSetQx, e1, e2, e3, bindS]⟩
          | ex x h1 => exact ⟨true, by simp [sSetQx, e1, e2, e3, bindS]⟩
          | ok i h3 =>
            simp only
            refine ⟨isDQ o h3, ?_⟩
            cases isDQ o h3 with
            | true => simp [sSetQx, e1, e2, e3, bindS]
            | false => simp [sSetIx, e1, e2, e3, bindS]
    obtain ⟨d, e⟩ := key
    rw [e] at q
    cases d with
    | true => exact .inl (sSetQx_of ⟨ι, β, mh, σm, rel, rl, q⟩)
    | false => exact .inr ⟨ι, β, mh, σm, rel, rl, q⟩
noncomputable def mDictT : EM := fun _ h => .ok (.ref h.length) (h ++ [.dtt []])
theorem e_dictT {pos : Pos} : PE X (.Dict [] [] pos) (tE c W mDictT) :=
  pe_dnewT.wk fun σ H Q ⟨ι, β, mh, σm, rel, rl, p⟩ => fun q hq => p (ι ++ [q]) _ _ (Fr.new rel hq) (rel.new hq ⟨[], upd_same, rfl⟩) (rep_ref rel)
noncomputable def mLenQ (as : List MV) (h : MH) : R MV := match as with
  | [.ref n] => match h[n]? with
    | some (.dtt l) => .ok (.int l.length) h
    | _ => .bad
  | _ => .bad
theorem p_lenQ : PN c rLenT mLenQ := fun ι β H mh as xs Q W rel ra p => by
  unfold mLenQ at p
  split at p
  · rename_i n
    split at p
    · rename_i l eo
      obtain ⟨v, rfl, q⟩ := Vs1 ra
      unfold RepV at q
      obtain ⟨a, rfl, ea⟩ := q
      obtain ⟨o2, e2, ro⟩ := rel.at ea
      rw [eo] at e2; cases e2
      obtain ⟨l', hv, r⟩ := ro
      refine ⟨a, l', rfl, hv, ?_⟩
      rw [← r.length]
      exact p ι H _ .refl rel (rint _ _ _)
    · exact p.elim
  · exact p.elim
noncomputable def mLenC (as : List MV) (h : MH) : R MV := orB (mLen as h) (orB (mLenD as h) (mLenQ as h))
end
end MP
namespace MP
open PySem PySem.Spec PyProof.Rows PyProof.V L2
section
variable {X : Cx} {c : C} {W : WX} {ι β : List Addr} {H : Hp} {mh : MH}
noncomputable def mSetd (a b d : MV) (h : MH) : R MV := match a with
  | .ref n => match h[n]? with
    | some (.dct kvs) => match mkey b with
      | some _ => if (decide (kvs.length < SZ) && nodK kvs) = true then match lookKV kvs b with
        | some v => .ok v h
        | none => .ok d (setH h n (.dct (putKV kvs b d)))
        else .bad
      | none => .bad
    | _ => .bad
  | _ => .bad
theorem e_setd {o e g : Expr} {ro re rg : EM} {apos cpos : Pos} (ho : PE X o (tE c W ro)) (he : PE X e (tE c W re)) (hg : PE X g (tE c W rg)) (m : M2 X o "setdefault" apos e g cpos) : PE X (.Call (.Attribute o "setdefault" apos) [e, g] [] cpos) (tE c W (m3D mSetd ro re rg)) :=
  (pe_dsetd ho he hg m).wk fun σ H Q ⟨ι, β, mh, σm, rel, rl, p⟩ => by
    refine (run1 rel rl p).mono fun x H1 ⟨ι1, mh1, v, f1, rel1, rl1, rv, p1⟩ => ?_
    split at p1
    · rename_i ed
      obtain ⟨a, rfl, isd⟩ := isD_of ed rel1 rv
      refine ⟨a, rfl, isd, ?_⟩
      refine (run1 rel1 rl1 p1).mono fun y H2 ⟨ι2, mh2, b, f2, rel2, rl2, rb, p2⟩ => ?_
      refine (run1 rel2 rl2 p2).mono fun z H3 ⟨ι3, mh3, d, f3, rel3, rl3, rd, p3⟩ => ?_
      have rv3 := rv.mono (f2.trans f3)
      have rb3 := rb.mono f3
      unfold mSetd at p3
      cases v with
      | ref n =>
        simp only at p3
        unfold RepV at rv3
        obtain ⟨a', ea', ea⟩ := rv3
        cases ea'
        cases eo : mh3[n]? with
        | none => simp only [eo] at p3; exact p3.elim
        | some ob =>
          simp only [eo] at p3
          obtain ⟨o2, e2, ro⟩ := rel3.at ea
          rw [eo] at e2; cases e2
          cases ob with
          | dct kvs =>
            simp only at p3
            cases ek : mkey b with
            | none => simp only [ek] at p3; exact p3.elim
            | some k =>
              simp only [ek] at p3
              split at p3
              · rename_i hh
                simp only [Bool.and_eq_true, decide_eq_true_eq] at hh
                obtain ⟨l, hv, r⟩ := ro
                obtain ⟨l1, l2⟩ := look_rep ek r
                refine ⟨l, k, hv, mkey_rep ek rb3, by rw [← r.length, sz_eq]; exact hh.1, fun w ew => ?_, fun en => ?_⟩
                · cases el : lookKV kvs b with
                  | none => rw [l2 el] at ew; cases ew
                  | some m =>
                    rw [el] at p3
                    obtain ⟨w', ew', rw'⟩ := l1 m el
                    rw [ew] at ew'
                    cases ew'
                    exact p3 ι3 H3 w .refl rel3 rw'
                · cases el : lookKV kvs b with
                  | some m =>
                    obtain ⟨w', ew', rw'⟩ := l1 m el
                    rw [en] at ew'
                    cases ew'
                  | none =>
                    rw [el] at p3
                    have nf : ∀ o u, H3 a ≠ some (.frz o u) := fun o u z => by rw [hv] at z; cases z
                    have f := Fr.put (o := .dK (putK l k z)) ea nf
                    exact p3 ι3 _ z f (rel3.put ea nf ⟨_, upd_same, (put_rep ek rd r hh.2).move f.mov⟩) (rd.mono f)
              · exact p3.elim
          | _ => exact p3.elim
      | _ => exact p3.elim
    · exact p1.elim
theorem Mov.mapped {a : Addr} {o : HO} (ha : a ∈ ι) : Mov ι β H ι β (upd H a o) := ⟨fun b u e n nb => by
  have ne : b ≠ a := fun z => n (z ▸ ha)
  exact ⟨⟨u, by rw [upd_ne ne]; exact e, .rfl'⟩, n, nb⟩, fun _ _ h => h⟩
theorem nd_ix {l : List Addr} (nd : l.Nodup) : ∀ {m n : Nat} {a : Addr}, l[m]? = some a → l[n]? = some a → m = n := by
  intro m n a h1 h2
  obtain ⟨p, e1⟩ := List.getElem?_eq_some_iff.mp h1
  obtain ⟨q, e2⟩ := List.getElem?_eq_some_iff.mp h2
  rcases Nat.lt_trichotomy m n with h | h | h
  · exact absurd (e1.trans e2.symm) ((List.pairwise_iff_getElem.mp nd) m n p q h)
  · exact h
  · exact absurd (e2.trans e1.symm) ((List.pairwise_iff_getElem.mp nd) n m q p h)
theorem Rel.setM {n : Nat} {a : Addr} {o : HO} {mo : MO} (r : Rel c ι β H mh) (h : ι[n]? = some a) (q : RepO c ι β (upd H a o) a mo) : Rel c ι β (upd H a o) (mh.set n mo) := by
  have ha : a ∈ ι := List.mem_of_getElem? h
  refine ⟨by simp [r.len], r.nd, fun b hb => ?_, fun m u e => ?_⟩
  · obtain ⟨w, e, n', nf⟩ := r.ban b hb
    exact ⟨w, by rw [upd_ne (fun z => n' (by rw [z]; exact ha))]; exact e, n', nf⟩
  · by_cases z : m = n
    · subst z
      have hm : m < mh.length := by
        have := (List.getElem?_eq_some_iff.mp e).1
        simpa using this
      rw [List.getElem?_set_self hm] at e
      cases e
      exact ⟨a, h, q⟩
    · rw [List.getElem?_set_ne (fun z' => z z'.symm)] at e
      obtain ⟨b, e1, q1⟩ := r.obj m u e
      exact ⟨b, e1, q1.move (Mov.mapped ha) (upd_ne fun z' => z (nd_ix r.nd (by rw [← z']; exact e1) h))⟩
/-- from ahead of the lock to behind the unlocking -/
theorem Fr.unlk {ι' : List Addr} {H' : Hp} {a : Addr} {o u w : HO} (ha : a ∈ ι) (hu : H a = some u) (nf : ∀ od v, u ≠ .frz od v) (f : Fr ι (upd H a o) ι' H') : Fr ι H ι' (upd H' a w) := by
  refine ⟨f.pre, fun b v e n => ?_, fun b hb n => ?_, fun b od v e => ?_⟩
  · have ne : b ≠ a := fun z => n (by rw [z]; exact ha)
    rw [upd_ne ne]
    exact f.keep b v (by rw [upd_ne ne]; exact e) n
  · have ne : b ≠ a := fun z => n (by rw [z]; exact ha)
    have := f.news b hb n
    rwa [upd_ne ne] at this
  · have ne : b ≠ a := fun z => by
      rw [z, hu] at e
      cases e
      exact nf _ _ rfl
    rw [upd_ne ne]
    exact f.frz b od v (by rw [upd_ne ne]; exact e)
/-- a dict of the heap, locked -/
noncomputable def lkO : MO → Option MO
  | .dct l => some (.fdc l)
  | .dtt l => some (.fdt l)
  | _ => none
noncomputable def ulkO : MO → Option MO
  | .fdc l => some (.dct l)
  | .fdt l => some (.dtt l)
  | _ => none
noncomputable def lkH (v : MV) (h : MH) : Option (Nat × MH) := match v with
  | .ref n => match h[n]? with
    | some o => match lkO o with
      | some o' => some (n, h.set n o')
      | none => none
    | none => none
  | _ => none
noncomputable def ulkH (n : Nat) (h : MH) : Option MH := match h[n]? with
  | some o => match ulkO o with
    | some o' => some (h.set n o')
    | none => none
  | none => none
theorem lk_rel {v : MV} {x : V} {n : Nat} {h' : MH} (e : lkH v mh = some (n, h')) (rel : Rel c ι β H mh) : ∃ a u, ι[n]? = some a ∧ H a = some u ∧ Mut (some u) ∧ (∀ od w, u ≠ .frz od w) ∧ ∀ od, Rel c ι β (upd H a (.frz od u)) h' ∧ Fr ι H ι (upd H a (.frz od u)) ∧
    ∀ ι' H' mh' mh'', Rel c ι' β H' mh' → Fr ι (upd H a (.frz od u)) ι' H' → ulkH n mh' = some mh'' → H' a = some (.frz od u) ∧ Rel c ι' β (upd H' a u) mh'' := by
  cases v with
  | ref m =>
    unfold lkH at e
    simp only at e
    cases eo : mh[m]? with
    | none => simp only [eo] at e; cases e
    | some ob =>
      simp only [eo] at e
      obtain ⟨a, ea, ro⟩ := rel.obj m ob eo
      have ha : a ∈ ι := List.mem_of_getElem? ea
      cases ob with
      | dct l =>
        simp only [lkO, Option.some.injEq, Prod.mk.injEq] at e
        obtain ⟨rfl, rfl⟩ := e
        obtain ⟨l0, hv, r⟩ := ro
        have nf : ∀ o u, H a ≠ some (.frz o u) := fun o u z => by rw [hv] at z; cases z
        refine ⟨a, .dK l0, ea, hv, trivial, (fun _ _ z => by cases z), fun od => ⟨rel.setM ea ⟨od, l0, upd_same, r.move (Mov.mapped ha)⟩, Fr.put ea nf, fun ι' H' mh' mh'' rel' f eu => ?_⟩⟩
        have hf := f.frz a od (.dK l0) upd_same
        refine ⟨hf, ?_⟩
        unfold ulkH at eu
        cases em : mh'[m]? with
        | none => simp only [em] at eu; cases eu
        | some o2 =>
          simp only [em] at eu
          obtain ⟨a2, ea2, ro2⟩ := rel'.obj m o2 em
          have e3 := f.get ea
          rw [ea2] at e3
          cases e3
          have ha' : a ∈ ι' := List.mem_of_getElem? ea2
          cases o2 with
          | fdc l2 =>
            simp only [ulkO, Option.some.injEq] at eu
            subst eu
            obtain ⟨od2, l3, h3, r3⟩ := ro2
            rw [hf] at h3
            cases h3
            exact rel'.setM ea2 ⟨l0, upd_same, r3.move (Mov.mapped ha')⟩
          | fdt l2 => obtain ⟨od2, l3, h3, r3⟩ := ro2; rw [hf] at h3; cases h3
          | _ => simp only [ulkO] at eu; cases eu
      | dtt l =>
        simp only [lkO, Option.some.injEq, Prod.mk.injEq] at e
        obtain ⟨rfl, rfl⟩ := e
        obtain ⟨l0, hv, r⟩ := ro
        have nf : ∀ o u, H a ≠ some (.frz o u) := fun o u z => by rw [hv] at z; cases z
        refine ⟨a, .dT l0, ea, hv, trivial, (fun _ _ z => by cases z), fun od => ⟨rel.setM ea ⟨od, l0, upd_same, r.move (Mov.mapped ha)⟩, Fr.put ea nf, fun ι' H' mh' mh'' rel' f eu => ?_⟩⟩
        have hf := f.frz a od (.dT l0) upd_same
        refine ⟨hf, ?_⟩
        unfold ulkH at eu
        cases em : mh'[m]? with
        | none => simp only [em] at eu; cases eu
        | some o2 =>
          simp only [em] at eu
          obtain ⟨a2, ea2, ro2⟩ := rel'.obj m o2 em
          have e3 := f.get ea
          rw [ea2] at e3
          cases e3
          have ha' : a ∈ ι' := List.mem_of_getElem? ea2
          cases o2 with
          | fdt l2 =>
            simp only [ulkO, Option.some.injEq] at eu
            subst eu
            obtain ⟨od2, l3, h3, r3⟩ := ro2
            rw [hf] at h3
            cases h3
            exact rel'.setM ea2 ⟨l0, upd_same, r3.move (Mov.mapped ha')⟩
          | fdc l2 => obtain ⟨od2, l3, h3, r3⟩ := ro2; rw [hf] at h3; cases h3
          | _ => simp only [ulkO] at eu; cases eu
      | _ => simp only [lkO] at e; cases e
  | _ => cases e
/-- the dict that re tells is locked while the statement runs -/
noncomputable def sLk (re : EM) (body : SM) : SM := fun σ h => match re σ h with
  | .ok v _ => match lkH v h with
    | some (n, h1) => match body σ h1 with
      | .nx σ2 h2 => match ulkH n h2 with
        | some h3 => .nx σ2 h3
        | none => .bad
      | .rt w h2 => match ulkH n h2 with
        | some h3 => .rt w h3
        | none => .bad
      | .ex e σ2 h2 => .ex e σ2 h2
      | _ => .bad
    | none => .bad
  | _ => .bad
theorem s_lk {st : Stmt} {body : SM} (re : EM) (h : PS X st (tS c W body)) : PS X st (tS c W (sLk re body)) :=
  (ps_lock h).wk fun D σ H ⟨ι, β, mh, σm, rel, rl, p⟩ => by
    unfold sLk at p
    cases er : re σm mh with
    | ok v hx =>
      simp only [er] at p
      cases el : lkH v mh with
      | none => simp only [el] at p; exact p.elim
      | some q =>
        obtain ⟨n, h1⟩ := q
        simp only [el] at p
        obtain ⟨a, u, ea, hu, mu, nf, go⟩ := lk_rel (x := .non) el rel
        have ha : a ∈ ι := List.mem_of_getElem? ea
        refine ⟨a, u, hu, mu, fun od => ?_⟩
        obtain ⟨rel1, f1, back⟩ := go od
        refine ⟨ι, β, h1, σm, rel1, rl.move (Mov.mapped ha), ?_⟩
        cases eb : body σm h1 with
        | nx σ2 h2 =>
          simp only [eb] at p
          cases eu : ulkH n h2 with
          | none => simp only [eu] at p; exact p.elim
          | some h3 =>
            simp only [eu] at p
            intro ι' H' σ' f rel' rl'
            obtain ⟨hf, rel2⟩ := back ι' H' h2 h3 rel' f eu
            have ha' : a ∈ ι' := f.sub ha
            exact ⟨hf, p ι' _ σ' (Fr.unlk ha hu nf f) rel2 (rl'.move (Mov.mapped ha'))⟩
        | rt w h2 =>
          simp only [eb] at p
          cases eu : ulkH n h2 with
          | none => simp only [eu] at p; exact p.elim
          | some h3 =>
            simp only [eu] at p
            intro ι' H' y f rel' ry
            obtain ⟨hf, rel2⟩ := back ι' H' h2 h3 rel' f eu
            have ha' : a ∈ ι' := f.sub ha
            exact ⟨hf, p ι' _ y (Fr.unlk ha hu nf f) rel2 (ry.move (Mov.mapped ha'))⟩
        | ex e σ2 h2 =>
          simp only [eb] at p
          intro ι' H' cls d σ' f rel' rl' rx
          exact p ι' H' cls d σ' (f1.trans f) rel' rl' rx
        | bk σ2 h2 => simp only [eb] at p; exact p.elim
        | ct σ2 h2 => simp only [eb] at p; exact p.elim
        | bad => simp only [eb] at p; exact p.elim
    | ex x h1 => simp only [er] at p; exact p.elim
    | bad => simp only [er] at p; exact p.elim
noncomputable def eLk (re : EM) (rm : EM) : EM := fun σ h => match re σ h with
  | .ok v _ => match lkH v h with
    | some (n, h1) => match rm σ h1 with
      | .ok w h2 => match ulkH n h2 with
        | some h3 => .ok w h3
        | none => .bad
      | .ex e h2 => .ex e h2
      | .bad => .bad
    | none => .bad
  | _ => .bad
theorem e_lk {e : Expr} {rm : EM} (re : EM) (h : PE X e (tE c W rm)) : PE X e (tE c W (eLk re rm)) :=
  (pe_lock h).wk fun σ H Q ⟨ι, β, mh, σm, rel, rl, p⟩ => by
    unfold eLk at p
    cases er : re σm mh with
    | ok v hx =>
      simp only [er] at p
      cases el : lkH v mh with
      | none => simp only [el] at p; exact p.elim
      | some q =>
        obtain ⟨n, h1⟩ := q
        simp only [el] at p
        obtain ⟨a, u, ea, hu, mu, nf, go⟩ := lk_rel (x := .non) el rel
        have ha : a ∈ ι := List.mem_of_getElem? ea
        refine ⟨a, u, hu, mu, fun od => ?_⟩
        obtain ⟨rel1, f1, back⟩ := go od
        refine ⟨ι, β, h1, σm, rel1, rl.move (Mov.mapped ha), ?_⟩
        cases eb : rm σm h1 with
        | ok w h2 =>
          simp only [eb] at p
          cases eu : ulkH n h2 with
          | none => simp only [eu] at p; exact p.elim
          | some h3 =>
            simp only [eu] at p
            intro ι' H' y f rel' ry
            obtain ⟨hf, rel2⟩ := back ι' H' h2 h3 rel' f eu
            have ha' : a ∈ ι' := f.sub ha
            have ry' : RepV c.K ι' β H' w y := ry
            exact ⟨hf, p ι' _ y (Fr.unlk ha hu nf f) rel2 (ry'.move (Mov.mapped ha'))⟩
        | ex e h2 =>
          simp only [eb] at p
          intro ι' H' cls d f rel' rx
          exact p ι' H' cls d (f1.trans f) rel' rx
        | bad => simp only [eb] at p; exact p.elim
    | ex x h1 => simp only [er] at p; exact p.elim
    | bad => simp only [er] at p; exact p.elim
theorem src_keysR {a : Addr} {od : Obj} {l : List (Key × V)} {ks : List MV} (hk : RepKs ks (l.map (·.1))) : Src c (Itk a od l) ks (fun _ => true) (fun ι β H => H a = some (.frz od (.dK l)) ∧ a ∉ β) := by
  have len : ks.length = l.length := by simpa using RepKs.len hk
  refine ⟨?_, ?_, ?_, ?_, ?_⟩
  · rintro ι β H ι' H' f ⟨q, nb⟩
    exact ⟨f.frz a od _ q, nb⟩
  · rintro ι β H mh i m rel ⟨q, nb⟩ _ hm
    obtain ⟨k, e1, ek⟩ := RepKs.at hk hm
    refine ⟨⟨q, by rw [← len]; exact (List.getElem?_eq_some_iff.mp hm).1⟩, fun x H' hy => ?_⟩
    obtain ⟨rfl, k', v', el', ex⟩ := hy
    rw [List.getElem?_map, el'] at e1
    cases e1
    subst ex
    refine ⟨.refl, rel, ?_⟩
    cases m with
    | int i => cases ek; exact rint _ _ _
    | str z => cases ek; exact rstr _ _ _
    | _ => cases ek
  · rintro ι β H mh rel ⟨q, nb⟩ _
    exact ⟨q, by rw [len]; exact Nat.le_refl _⟩
  · rintro ι β H D o ⟨q, nb⟩ hD
    exact ⟨by rw [upd_ne (ne_of_none q hD)]; exact q, fun z => (List.mem_cons.mp z).elim (ne_of_none q hD) nb⟩
  · rintro ι β H D o ⟨q, nb⟩
    exact ⟨by rw [upd_ne (fun z => nb (by rw [z]; exact List.mem_cons_self))]; exact q, nb⟩
theorem RepTV.at : ∀ {r : List (MV × MV)} {l : List (List Key × V)} {i : Nat} {m : MV}, RepTV c.K ι β H r l → (r.map (·.1))[i]? = some m → ∃ k v, l[i]? = some (k, v) ∧ tkey m = some k
  | [], l, i, m, h, e => by simp at e
  | (k, w) :: r, l, 0, m, h, e => by
    obtain ⟨k', v, l', rfl, ek, rv, t⟩ := h
    simp at e
    subst e
    exact ⟨k', v, rfl, ek⟩
  | (k, w) :: r, l, i + 1, m, h, e => by
    obtain ⟨k', v, l', rfl, ek, rv, t⟩ := h
    obtain ⟨k2, v2, e1, e2⟩ := RepTV.at (i := i) t (by simpa using e)
    exact ⟨k2, v2, by simpa using e1, e2⟩
theorem src_keysT {a : Addr} {od : Obj} {l : List (List Key × V)} {kvs : List (MV × MV)} (hk : ∀ (i : Nat) m, (kvs.map (·.1))[i]? = some m → ∃ k v, l[i]? = some (k, v) ∧ tkey m = some k) (len : kvs.length = l.length) : Src c (Itkt a od l) (kvs.map (·.1)) (fun _ => true) (fun ι β H => H a = some (.frz od (.dT l)) ∧ a ∉ β) := by
  refine ⟨?_, ?_, ?_, ?_, ?_⟩
  · rintro ι β H ι' H' f ⟨q, nb⟩
    exact ⟨f.frz a od _ q, nb⟩
  · rintro ι β H mh i m rel ⟨q, nb⟩ _ hm
    obtain ⟨k, v, e1, ek⟩ := hk i m hm
    refine ⟨⟨q, (List.getElem?_eq_some_iff.mp e1).1⟩, fun x H' hy => ?_⟩
    obtain ⟨rfl, k', v', t, el', rfl, ht⟩ := hy
    rw [e1] at el'
    cases el'
    exact ⟨.refl, rel, key_tup rel ek ht⟩
  · rintro ι β H mh rel ⟨q, nb⟩ _
    exact ⟨q, by rw [List.length_map, len]; exact Nat.le_refl _⟩
  · rintro ι β H D o ⟨q, nb⟩ hD
    exact ⟨by rw [upd_ne (ne_of_none q hD)]; exact q, fun z => (List.mem_cons.mp z).elim (ne_of_none q hD) nb⟩
  · rintro ι β H D o ⟨q, nb⟩
    exact ⟨by rw [upd_ne (fun z => nb (by rw [z]; exact List.mem_cons_self))]; exact q, nb⟩
theorem src_valsR {a : Addr} {od : Obj} {l : List (Key × V)} {ws : List MV} : Src c (Itd a od l) ws (fun _ => true) (fun ι β H => H a = some (.frz od (.dK l)) ∧ a ∉ β ∧ RepVs c.K ι β H ws (l.map (·.2))) := by
  refine ⟨?_, ?_, ?_, ?_, ?_⟩
  · rintro ι β H ι' H' f ⟨q, nb, r⟩
    exact ⟨f.frz a od _ q, nb, r.mono f⟩
  · rintro ι β H mh i m rel ⟨q, nb, r⟩ _ hm
    obtain ⟨v, ev, rv⟩ := r.get hm
    rw [List.getElem?_map] at ev
    cases el : l[i]? with
    | none => rw [el] at ev; simp at ev
    | some p =>
      rw [el] at ev
      simp only [Option.map_some, Option.some.injEq] at ev
      subst ev
      refine ⟨⟨q, (List.getElem?_eq_some_iff.mp el).1⟩, fun x H' hy => ?_⟩
      obtain ⟨rfl, k', el'⟩ := hy
      rw [el] at el'
      cases el'
      exact ⟨.refl, rel, rv⟩
  · rintro ι β H mh rel ⟨q, nb, r⟩ _
    exact ⟨q, by rw [r.length]; simp⟩
  · rintro ι β H D o ⟨q, nb, r⟩ hD
    exact ⟨by rw [upd_ne (ne_of_none q hD)]; exact q, fun z => (List.mem_cons.mp z).elim (ne_of_none q hD) nb, r.move (Mov.ban hD)⟩
  · rintro ι β H D o ⟨q, nb, r⟩
    exact ⟨by rw [upd_ne (fun z => nb (by rw [z]; exact List.mem_cons_self))]; exact q, nb, r.move Mov.turn⟩
noncomputable def itKR (v : MV) (h : MH) : R (List MV × (MH → Bool)) := match v with
  | .ref n => match h[n]? with
    | some (.fdc l) => .ok (l.map (·.1), fun _ => true) h
    | some (.fdt l) => .ok (l.map (·.1), fun _ => true) h
    | _ => .bad
  | _ => .bad
noncomputable def itVR (v : MV) (h : MH) : R (List MV × (MH → Bool)) := match v with
  | .ref n => match h[n]? with
    | some (.fdc l) => .ok (l.map (·.2), fun _ => true) h
    | _ => .bad
  | _ => .bad
noncomputable def iKR (re : EM) : IM := fun σ h => bindR (re σ h) itKR
noncomputable def iVR (re : EM) : IM := fun σ h => bindR (re σ h) itVR
variable {tg e : Expr} {re : EM} {apos cpos : Pos}
theorem i_keysR (he : PE X e (tE c W re)) : PI X tg e (tI c W (iKR re)) :=
  (pi_keys he).wk fun σ H R h => by
    refine (runI (Rp := RV c) (ra := re) (k := itKR) h).mono fun x H1 ⟨ι1, β, mh1, σm, v, rel, rl, rv, p⟩ => ?_
    cases v with
    | ref n =>
      unfold itKR at p
      simp only at p
      unfold RV RepV at rv
      obtain ⟨a, rfl, ea⟩ := rv
      obtain ⟨o, eo, ro⟩ := rel.at ea
      have nb : a ∉ β := fun z => by
        obtain ⟨_, _, n', _⟩ := rel.ban a z
        exact n' (List.mem_of_getElem? ea)
      cases o with
      | fdc l =>
        simp only [eo] at p
        obtain ⟨od, l0, hv, r⟩ := ro
        exact ⟨a, od, rfl, .inl ⟨l0, hv, p ι1 H1 _ _ .refl rel (src_keysR r.split.1) ⟨hv, nb⟩⟩⟩
      | fdt l =>
        simp only [eo] at p
        obtain ⟨od, l0, hv, r⟩ := ro
        exact ⟨a, od, rfl, .inr ⟨l0, hv, p ι1 H1 _ _ .refl rel (src_keysT (fun i m e => r.at e) r.length) ⟨hv, nb⟩⟩⟩
      | _ => simp only [eo] at p <;> exact p.elim
    | _ => exact p.elim
theorem i_valsR (he : PE X e (tE c W re)) (hbase : attributeBase e "values" X.env (eval e X.env) = eval e X.env := by rfl) (hline : (apos.endLine == cpos.line) = true := by rfl) : PI X tg (.Call (.Attribute e "values" apos) [] [] cpos) (tI c W (iVR re)) :=
  (pi_values he hbase hline).wk fun σ H R h => by
    refine (runI (Rp := RV c) (ra := re) (k := itVR) h).mono fun x H1 ⟨ι1, β, mh1, σm, v, rel, rl, rv, p⟩ => ?_
    cases v with
    | ref n =>
      unfold itVR at p
      simp only at p
      unfold RV RepV at rv
      obtain ⟨a, rfl, ea⟩ := rv
      obtain ⟨o, eo, ro⟩ := rel.at ea
      have nb : a ∉ β := fun z => by
        obtain ⟨_, _, n', _⟩ := rel.ban a z
        exact n' (List.mem_of_getElem? ea)
      cases o with
      | fdc l =>
        simp only [eo] at p
        obtain ⟨od, l0, hv, r⟩ := ro
        exact ⟨a, od, l0, rfl, hv, p ι1 H1 _ _ .refl rel src_valsR ⟨hv, nb, r.split.2⟩⟩
      | _ => simp only [eo] at p <;> exact p.elim
    | _ => exact p.elim
end
end MP
namespace MP
open PySem PySem.Spec PyProof.Rows PyProof.V L2
noncomputable def mDc1 (r : IM) (p : TP) (ek ev : EM) (vs : List Nat) (fin : List (MV × MV) → MH → R MV) : EM := fun σ h => bindR (r σ h) fun lc h1 =>
  match dcIn lc.2 p ek ev lc.1 (clrL vs σ) h1 with
    | .ok l h2 => if (keysOk l && decide (l.length ≤ SZ)) = true then fin (putAll [] l) h2 else .bad
    | _ => .bad
section
variable {X : Cx} {c : C} {W : WX}
theorem mDc1_of {r : IM} {p : TP} {ek ev : EM} {vs : List Nat} {fin : List (MV × MV) → MH → R MV} {g : TG} {σ : St} {H : Hp} {Q : VK} (fo : FinD c fin) (rd : RdOk c vs g p) (h : tE c W (mDc1 r p ek ev vs fin) σ H Q) :
    tDc (tI c W r) g (fun _ H Q => Q true H) (tE c W0 ek) (tE c W0 ev) vs σ H Q := by
  obtain ⟨ι, β, mh, σm, rel, rl, q⟩ := h
  refine ⟨ι, β, mh, σm, rel, rl, ?_⟩
  unfold mDc1 at q
  cases er : r σm mh with
  | ok lc h1 =>
    obtain ⟨l, chk⟩ := lc
    simp only [er, bindR] at q
    intro ι' H' J inv f rel' S hi D hD
    cases el : dcIn chk p ek ev l (clrL vs σm) h1 with
    | ok l2 h2 =>
      simp only [el] at q
      split at q
      · rename_i ok
        rw [Bool.and_eq_true, decide_eq_true_eq] at ok
        have d : DAt c ι' β H' D σm σ ι' (upd H' D (.dK [])) h1 [] [] := ⟨rel'.ban' hD (fun _ _ z => by cases z), (rl.mono f).move (Mov.ban hD), Fr.updN .refl hD, upd_same, rfl, rfl⟩
        obtain ⟨Wn, h0, hs⟩ := in_of (ek := ek) (ev := ev) (Q := fun H' => Q (.ref D) H') (inv := inv) (rest := fun r h => R.ok r h) S rd hD d (S.ban _ _ _ _ _ hi hD) (S.ban _ _ _ _ _ hi hD) S.mono S.turn
          (fun {r h} e => by
            rw [el] at e
            injection e with e1 e2
            subst e1 e2
            exact ⟨ok.1, by simpa using ok.2, fun ι2 H2 kvs f2 rel2 hD2 rv2 nd2 => fo ι' β H' h1 D ι2 H2 (putAll [] l2) kvs h2 Q _ rel' hD f2 rel2 hD2 rv2 nd2 (Post.fr f q)⟩)
          ⟨l2, h2, el⟩ (fun k v r h => rfl) (fun H => Q (.ref D) H) (fun ι2 H2 mh2 acc kvs d2 _ pd => pd.2.2 ι2 H2 kvs d2.fr d2.rel d2.at_ d2.rep d2.nd)
        exact ⟨Wn, h0, hs⟩
      · exact q.elim
    | ex a b => simp only [el] at q; exact q.elim
    | bad => simp only [el] at q; exact q.elim
  | ex x h1 => simp only [er, bindR] at q; exact q
  | bad => simp only [er, bindR] at q; exact q
theorem e_dc1 {kx vx tg iter : Expr} {scope : Scope} {own : List (Str × Nat)} {pos : Pos} {r : IM} {p : TP} {ek ev : EM} {g : TG} (fin : List (MV × MV) → MH → R MV) (fo : FinD c fin) (hc : X.calm = true) (hN : X.N.Nodup) (hi : PI X tg iter (tI c W r)) (ok : BlkOk X.N X.env.scope scope own)
    (rd : RdOk c (own.map (·.2)) g p)
    (hg : ∀ (s : Shared) (H : Hp) (C : Addr) (cl : List (Str × Addr)) (fp : List Addr), PG (X.blk s H scope (compEnvC scope cl C X.env) fp) tg g)
    (hk : ∀ (s : Shared) (H : Hp) (C : Addr) (cl : List (Str × Addr)) (fp : List Addr), PE (X.blk s H scope (compEnvC scope cl C X.env) fp) kx (tE c W0 ek))
    (hv : ∀ (s : Shared) (H : Hp) (C : Addr) (cl : List (Str × Addr)) (fp : List Addr), PE (X.blk s H scope (compEnvC scope cl C X.env) fp) vx (tE c W0 ev))
    (fold : ∀ x, foldedSetIterable iter X.env x = pure x := by intro _; rfl) :
    PE X (.DictComp kx vx [⟨tg, iter, [], 0⟩] scope pos) (tE c W (mDc1 r p ek ev (own.map (·.2)) fin)) :=
  (pe_dc hc hN hi ok hg (fun _ _ _ _ _ => pts_nil) hk hv fold).wk fun σ H Q h => mDc1_of fo rd h
noncomputable def itS (v : MV) (h : MH) : R (List MV × (MH → Bool)) := match v with
  | .str x => .ok (x.cps.toList.map fun k => .str ⟨#[k]⟩, fun _ => true) h
  | _ => .bad
noncomputable def iS (re : EM) : IM := fun σ h => bindR (re σ h) itS
theorem src_str {x : Str} : Src c (Its x) (x.cps.toList.map fun k => MV.str ⟨#[k]⟩) (fun _ => true) (fun _ _ _ => True) := by
  refine ⟨fun _ _ _ _ _ _ _ => trivial, fun ι β H mh i m rel _ _ hm => ?_, fun ι β H mh _ _ _ => by show x.cps.size ≤ _; simp, fun _ _ _ _ _ _ _ => trivial, fun _ _ _ _ _ _ => trivial⟩
  rw [List.getElem?_map] at hm
  cases ek : x.cps.toList[i]? with
  | none => rw [ek] at hm; simp at hm
  | some k =>
    rw [ek] at hm
    simp only [Option.map_some, Option.some.injEq] at hm
    subst hm
    have hi : i < x.cps.size := by
      have := (List.getElem?_eq_some_iff.mp ek).1
      simpa using this
    refine ⟨hi, fun y H' hy => ?_⟩
    obtain ⟨rfl, k', e', rfl⟩ := hy
    rw [Array.getElem?_toList] at ek
    rw [ek] at e'
    cases e'
    exact ⟨.refl, rel, rstr _ _ _⟩
theorem i_str {tg e : Expr} {re : EM} (he : PE X e (tE c W re)) : PI X tg e (tI c W (iS re)) :=
  (pi_str he).wk fun σ H R h => by
    refine (runI (Rp := RV c) (ra := re) (k := itS) h).mono fun x H1 ⟨ι1, β, mh1, σm, v, rel, rl, rv, p⟩ => ?_
    cases v with
    | str z => exact ⟨z, rs rv, p ι1 H1 _ _ .refl rel src_str trivial⟩
    | _ => exact p.elim
noncomputable def mInSg (a b : MV) (h : MH) : R MV := match a, b with
  | .str x, .str y => match x.cps.toList with
    | [k] => .ok (.bl (decide (k ∈ y.cps.toList))) h
    | _ => .bad
  | _, _ => .bad
theorem p_inSg : P2 c (fun x y H Q => ∃ (k : Nat) (z : Str), x = .str ⟨#[k]⟩ ∧ y = .str z ∧ Q (.bl (decide (k ∈ z.cps.toList))) H) mInSg := fun ι β H mh a b x y Q W rel ra rb p => by
  unfold mInSg at p
  split at p
  · rename_i x' y'
    split at p
    · rename_i k ek
      refine ⟨k, y', ?_, rs rb, p ι H _ .refl rel (rbl _ _ _)⟩
      rw [rs ra]
      congr 1
      cases x' with | mk cps =>
      congr 1
      exact Array.toList_inj.mp ek
    · exact p.elim
  · exact p.elim
end
end MP
namespace MP
open PySem PySem.Spec PyProof.Rows PyProof.V L2
theorem FunD.fun {K : PySem.W.Frag} {x qual : Str} {st : Stmt} {f : Addr} {fd : FuncData} {kws : List (Str × V)} (F : FunD K x qual (defArgs st) (defBody st) (defScope st) [] kws f fd) : Fun K x qual st f fd := by
  refine ⟨?_, F.kp⟩
  obtain ⟨oc, od, dV, kV, doc, pm, an, cdv, ct, osl, e, lk, hcd, hD, _⟩ := F.ex
  rcases hD with ⟨_, rfl⟩ | ⟨e2, _⟩
  · exact ⟨oc, od, kV, doc, pm, an, cdv, ct, osl, e, lk, hcd⟩
  · exact absurd rfl e2
theorem FunD.kbX {K : PySem.W.Frag} {x qual : Str} {params : Arguments} {body : List Stmt} {scope : Scope} {kws : List (Str × V)} {f : Addr} {fd : FuncData} {ps : List Str} (F : FunD K x qual params body scope [] kws f fd) (n : Nat) (ks : List Str)
    (h : ∀ (kV doc pm : Value) (an : Option Addr) (cdv ct : Value) (us ws : List Value), us.length = n → ws.length = ks.length → bindArgs (PySem.W.fnOf x qual params body scope .none kV doc pm an cdv ct) ⟨us, ks.zip ws⟩ = pure (ps.zip (us ++ ws))) :
    KBn K fd ps n ks (fun us ws => us ++ ws) (fun vs zs => vs ++ zs) := by
  obtain ⟨oc, od, dV, kV, doc, pm, an, cdv, ct, osl, rfl, lk, hcd, hD, hK⟩ := F.ex
  rcases hD with ⟨_, rfl⟩ | ⟨e, _⟩
  · exact ⟨fun s us ws X l1 l2 => .of_eq (h kV doc pm an cdv ct us ws l1 l2), fun r1 r2 => r1.append r2⟩
  · exact absurd rfl e
section
variable {X : Cx} {c : C}
theorem call_lenC : CallR X (.builtin "len") (fun vs H Q => rLen X.K vs H Q ∨ ((∃ a kvs, vs = [V.ref a] ∧ H a = some (.dK kvs) ∧ Q (.int kvs.length) H) ∨ rLenT vs H Q)) := CallR.or call_len (CallR.or call_lenD call_len_dT)
theorem p_lenC : PN c (fun vs H Q => rLen c.K vs H Q ∨ ((∃ a kvs, vs = [V.ref a] ∧ H a = some (.dK kvs) ∧ Q (.int kvs.length) H) ∨ rLenT vs H Q)) mLenC := PN.orB p_len (PN.orB p_lenD p_lenQ)
end
section
variable {X : Cx} {σ : St} {H : Hp} {s : Shared}
theorem items_laid2 {pins : List (Addr × Obj)} {h' : Heap} {tk : Nat} {kvs : List (Key × V)} {vs : List (Key × Value)} {as : List Addr} (I : Inv X pins σ H s) (kv : KV kvs vs)
    (hk : ∀ b o, s.heap.get? b = some o → h'.get? b = some o) (hl : as.length = vs.length) (hG : PySem.W.KdxG (mixKind X.prog X.w) vs s.heap.objs.size h' as) :
    ∃ H' : Hp, (∀ b o, H b = some o → H' b = some o) ∧ (∀ t ∈ as, H t = none) ∧ Paired (fun (t : Addr) (q : Key × V) => H' t = some (.tup [kV q.1, q.2])) as kvs ∧ Inv X pins σ H' { s with heap := h', toks := tk } := by
  have lk : kvs.length = vs.length := Paired.length kv
  have nd : as.Nodup := List.Pairwise.imp (fun {a b} (h : a < b) => Nat.ne_of_lt h) hG.rise
  have new : ∀ t ∈ as, H t = none := fun t ht => I.hok.fresh (Nat.le_of_lt (hG.above t ht))
  have atP := LiI.putT_at as kvs H (by omega) nd
  have off : ∀ b, b ∉ as → LiI.putT H as kvs b = H b := fun b h1 => LiI.putT_off as kvs _ h1
  have low : ∀ b o, s.heap.get? b = some o → b ∉ as := fun b o e z => absurd (Heap.lt_size e) (Nat.not_lt.mpr (Nat.le_of_lt (hG.above b z)))
  have kp : ∀ b u, H b = some u → (LiI.putT H as kvs) b = some u := fun b u e => by
    rw [off b (fun z => by rw [new b z] at e; cases e)]
    exact e
  refine ⟨LiI.putT H as kvs, kp, new, atP, ?_⟩
  refine I.call' (ch := []) rfl ⟨fun b o q _ _ _ => hk b o q, fun b o q _ _ _ => ⟨o.slots, hk b o q⟩, fun b o q n _ => ?_, fun b o q _ => ⟨o, hk b o q⟩, fun b xs q => kp b _ q, fun b o u q => kp b _ q, fun b ps q => ⟨#[], by rw [kp b _ q]; simp⟩⟩ (fun b u q => ?_) I.bare fun b z => by simp at z
  · rw [off b (low b o q)]
    exact n
  · by_cases hb : b ∈ as
    · obtain ⟨j, pk, e1, e2, e3⟩ := LiI.paired_ix atP hb
      rw [e3] at q
      cases q
      obtain ⟨key, k, x, f1, f2, f3⟩ := hG.pairs j b e1
      obtain ⟨qv, g1, g2, g3⟩ := LiI.paired_get kv e2
      rw [f1] at g1
      cases g1
      have rk : RelV (kV pk.1) key := by
        rw [g2]
        exact relV_key (show keyIs k key = true from f2)
      exact ⟨by show 2 ≤ sizeLine; decide, [key, x], .cons rk (.cons g3 .nil), ⟨_, f3, rfl, _, rfl⟩⟩
    · rw [off b hb] at q
      exact (I.hok b u q).stay (fun d v _ y => hk d v y) (fun d y => kp d _ y) fun d xs y => kp d _ y
noncomputable def rSrtI (K : PySem.W.Frag) : V → Hp → VK → Prop := fun x H Q => ∃ (d : Addr) (kvs : List (Key × V)), x = .ref d ∧ Rd H d (.dK kvs) ∧
  ∀ (H' : Hp) (ts : List Addr), (∀ b o, H b = some o → H' b = some o) → (∀ t ∈ ts, H t = none) → Paired (fun (t : Addr) (q : Key × V) => H' t = some (.tup [kV q.1, q.2])) ts kvs →
    ∃ ds : List PyData, DpAll K H' (ts.map V.ref) ds ∧ SOk ds ∧ ∀ l, H' l = none → Q (.ref l) (upd H' l (.lst ((((ts.map V.ref).zip ds).mergeSort leS).map (·.1))))
theorem pe_sortItems {e : Expr} {te : TE} {p apos cpos pos : Pos} (hu : X.A.units + 65 < cLine) (hc : X.calm = true) (he : PE X e te) (hg : Gl X "sorted") (hm : X.mg "sorted" = none) (hv : bootBuiltins "sorted" = some (.builtin "sorted")) (hb0 : attributeBase e "items" X.env (eval e X.env) = eval e X.env := by rfl) (hl0 : (apos.endLine == cpos.line) = true := by rfl)
    (hs : starEach [.Call (.Attribute e "items" apos) [] [] cpos] X.env = (false, eval (.Call (.Attribute e "items" apos) [] [] cpos) X.env) :: starEach [] X.env := by rfl) :
    PE X (.Call (.Name "sorted" p) [.Call (.Attribute e "items" apos) [] [] cpos] [] pos) (fun σ H Q => te σ H fun x H1 => rSrtI X.K x H1 Q) := by
  refine ⟨fun pins s σ H Q I wq => ?_⟩
  refine wpAny_Call_Name_kw (ld_blt I hg hm hv ?_)
  refine PyProof.Rows.callWith_builtin1 ?_ hs rfl
  rw [hs]
  show wpAny _ _ (spliced ((false, eval (.Call (.Attribute e "items" apos) [] [] cpos) X.env) :: backTo pos (starEach [] X.env))) _ _ s
  refine Calls.spliced_cons ?_
  refine wpAny_Call_method (T := "dict") (id := "dict.items") hb0 rfl hl0 F.plainAttrs_dict F.slot_dict_items F.type_dict_items (thn (he.run pins s σ H _ I wq) fun u z1 ⟨x, H1, J1, rx, d, kvs, ex, hd, q⟩ => ?_)
  subst ex
  obtain rfl : u = Value.ref d := rx
  obtain ⟨hz, hs0, vs, kv, dof⟩ := dk_rd J1.hok hd
  obtain ⟨ep, hat⟩ := dof.dictAt
  have lk : kvs.length = vs.length := Paired.length kv
  have J2 : Inv X pins σ H1 { z1 with heap := z1.heap.push { cls := .type "dict_items", data := .fields #[.ref d] } } := J1.kept (t' := z1.toks) fun b ob q => Heap.get?_push_of_some _ q
  refine ⟨dof.typeIs, dof.mapOf.noDict, ?_⟩
  show wpAny _ _ (callWith cpos (.builtin "dict.items") [.ref d] [] []) _ X.xe z1
  refine method_meetsIn F.slot_dict_items F.entry_dict_items rfl (PySem.evalArgs_none ⟨rfl, dof.typeIs, F.args_dict_items_1 _, _, meets_dict_items (mixKind X.prog X.w) d hs0, ⟨vs, dof⟩, ?_⟩)
  refine Calls.spliced_nil ?_
  refine Calls.call_function_entry PyProof.Rows.kind_sorted PyProof.Rows.plain_sorted PyProof.Rows.entry_sorted (PyProof.Rows.args_sorted1 _) ?_
  unfold Builtin.«sorted»
  refine wpAny_bind (m := checkCount "sorted" 1 1 _) (wpAny_pure ?_)
  refine wpAny_bind (PySem.W.kdx_collect (A := X.A.in1) (knd := mixKind X.prog X.w) (kvs := vs) (ep := ep) (J1.ok.hd hc) ⟨_, Heap.get?_push_size _ rfl, rfl, rfl⟩ (hat.push _) (by omega) fun h' tk as hk hl hG => ?_)
  obtain ⟨H', k1, k2, k3, I1⟩ := items_laid2 (tk := tk) J2 kv hk hl hG
  obtain ⟨ds, hd2, ok, q2⟩ := q H' as k1 k2 k3
  have rv : Vals (as.map V.ref) (as.map Value.ref) := refs_vals as
  have hl2 := dpAll_len hd2
  have es : ((as.map V.ref).zip ds).map (·.2) = ds := zip_snd hl2
  have lz : ((as.map V.ref).zip ds).length = ds.length := by rw [List.length_zip, hl2]; exact Nat.min_self _
  have lu : (as.map Value.ref).length = ds.length := by rw [← rv.length, hl2]
  refine wpAny_bind (wpAny_newList ?_ (by rw [lu]; exact ok.ln))
  have hoL : (h'.push (seqObj "list" (as.map Value.ref).toArray 0)).get? h'.objs.size = some (seqObj "list" (as.map Value.ref).toArray 0) := Heap.get?_push_size _ rfl
  show wpAny _ _ _ _ _ { z1 with heap := h'.push (seqObj "list" (as.map Value.ref).toArray 0), toks := tk }
  have e := each_of I1 hd2 rv
  have er : PySem.W.EachIs (fun (v : Value) (b : SIt) => ∃ as', Reads (h'.push (seqObj "list" (as.map Value.ref).toArray 0)) v b.2 as' ∧ h'.objs.size ∉ as') (as.map Value.ref) ((as.map V.ref).zip ds) := e.mono fun v b ⟨_, as', ra⟩ => ⟨as', PyProof.Rows.Reads.keeps (fun _ _ z => Heap.get?_push_of_some _ z) ra, fun z => by
    obtain ⟨o, eo⟩ := reads_at ra _ z
    exact absurd (Heap.lt_size eo) (Nat.lt_irrefl _)⟩
  refine wpAny_bind (wpAny_holding (PySem.W.list_sort_data (enc := fun p : SIt => p.2) (bs := (as.map V.ref).zip ds) (vs := as.map Value.ref) (R := fun (v : Value) (b : SIt) => RelV b.1 v ∧ ∃ as', Reads h' v b.2 as') hoL e er (by rw [es]; exact ok.al) (by rw [es]; exact ok.so) (by rw [lz]; exact ok.ln) (fun b hb => ?_) fun out h1 h2 => ?_))
  · have := ok.dp b.2 (by rw [← es]; exact List.mem_map.mpr ⟨b, hb, rfl⟩)
    show X.A.units + 1 + 1 + _ < cLine
    omega
  · obtain ⟨e', he'⟩ := PyProof.Rows.sortedHeap_at (vs := as.map Value.ref) (out := List.toArray out) hoL
    have rv2 : Vals ((((as.map V.ref).zip ds).mergeSort leS).map (·.1)) out := vals_of_each (s := { z1 with heap := h', toks := tk }) h2
    have ll : ((((as.map V.ref).zip ds).mergeSort leS).map (·.1)).length ≤ sizeLine := by rw [List.length_map, List.length_mergeSort, lz]; exact ok.ln
    refine wpAny_pure ⟨_, rfl, .ref h'.objs.size, upd H' h'.objs.size (.lst _), I1.laid (t' := tk) (fun b u q => ?_) (Nat.le_refl _) (show ObjOk X.prog X.w _ _ _ (.lst _) from ⟨ll, out, e', rv2, he'⟩), rfl, q2 _ (I1.hok.fresh (Nat.le_refl _))⟩
    have hb : b < h'.objs.size := Heap.lt_size q
    rw [PyProof.Rows.sortedHeap_old (Nat.ne_of_lt hb) (by rw [size_push']; exact Nat.lt_succ_of_lt hb)]
    exact Heap.get?_push_of_some _ q
end
section
variable {X : Cx} {c : C} {W : WX}
noncomputable def mSrtI (fin : List MV → MH → R MV) (a : MV) (h : MH) : R MV := match asD a h with
  | some kvs => match mapO (toD h 12) (kvs.map fun p => .tup [p.1, p.2]) with
    | some ds => if sokB ds = true then fin (sortMD (kvs.map fun p => .tup [p.1, p.2]) ds) h else .bad
    | none => .bad
  | none => .bad
theorem e_sortItems {e : Expr} {re : EM} {p apos cpos pos : Pos} {fin : List MV → MH → R MV} (hf : FinN c fin) (hu : X.A.units + 65 < cLine) (hK : X.K = c.K) (hc : X.calm = true) (he : PE X e (tE c W re)) (hg : Gl X "sorted") (hm : X.mg "sorted" = none) (hv : bootBuiltins "sorted" = some (.builtin "sorted")) (hbase : attributeBase e "items" X.env (eval e X.env) = eval e X.env := by rfl) (hline : (apos.endLine == cpos.line) = true := by rfl)
    (hs : starEach [.Call (.Attribute e "items" apos) [] [] cpos] X.env = (false, eval (.Call (.Attribute e "items" apos) [] [] cpos) X.env) :: starEach [] X.env := by rfl) :
    PE X (.Call (.Name "sorted" p) [.Call (.Attribute e "items" apos) [] [] cpos] [] pos) (tE c W (m1 (mSrtI fin) re)) :=
  (pe_sortItems hu hc he hg hm hv hbase hline hs).wk fun σ H Q ⟨ι, β, mh, σm, rel, rl, p⟩ => by
    refine (run1 rel rl p).mono fun x H1 ⟨ι1, mh1, v, f1, rel1, rl1, rv, p1⟩ => ?_
    unfold mSrtI at p1
    cases ea : asD v mh1 with
    | none => simp only [ea] at p1; exact p1.elim
    | some kvs =>
      simp only [ea] at p1
      cases ed : mapO (toD mh1 12) (kvs.map fun p => MV.tup [p.1, p.2]) with
      | none => simp only [ed] at p1; exact p1.elim
      | some ds =>
        simp only [ed] at p1
        split at p1
        · rename_i okB
          obtain ⟨d, l, o, rfl, hd, iv, r⟩ := asD_rep ea rel1 rv
          refine ⟨d, l, rfl, rd_of_dv hd iv, fun H' ts hk ht pr => ?_⟩
          have f : Fr ι1 H1 ι1 H' := ⟨⟨[], by simp⟩, fun a o e _ => ⟨o, hk a o e, .rfl'⟩, fun a z n => absurd z n, fun a o u e => hk a _ e⟩
          have rel2 : Rel c ι1 β H' mh1 := by
            refine ⟨rel1.len, rel1.nd, fun b hb => ?_, fun n w en => ?_⟩
            · obtain ⟨ob, e1, e2, e3⟩ := rel1.ban b hb
              exact ⟨ob, hk _ _ e1, e2, e3⟩
            · obtain ⟨a, e1, q⟩ := rel1.obj n w en
              obtain ⟨u, eu⟩ := q.some
              exact ⟨a, e1, q.mono f ((hk _ _ eu).trans eu.symm)⟩
          have rr := items_rep (RepKV.move' f.mov r) pr fun t h => ⟨rel1.fresh (ht t h), nban rel1 (ht t h)⟩
          refine ⟨ds, by rw [hK]; exact mapO_dp (fun m d v e r => toD_dp rel2 _ _ _ _ e r) ed rr, sok_of okB, fun l hl => ?_⟩
          exact (hf ι1 β H' mh1 _ _ l Q (fun cls d H' => W cls d σ H') rel2 (sorted_rep rr (mapO_len ed)) hl (Post.fr f p1))
        · exact p1.elim
end
end MP
namespace PySem.W
open PySem PySem.Calls PyProof.Rows PyProof.V PySem.Spec
section
variable {prog : Program} {w : World} {A : Around} {E : Value → Shared → Prop} {s : Shared} {oa ob : Obj} {es : Array DictEntry} {ep ep' : Nat}
theorem samePairs0 {nm : String} {a b : Addr} {Q : Bool → Shared → Prop} (ha : (a == sysModules) = false) (hb : (b == sysModules) = false)
    (hoa : s.heap.get? a = some oa) (hda : oa.data = .dict es ep) (hob : s.heap.get? b = some ob) (hdb : ob.data = .dict #[] ep') (h : Q (decide (es.size = 0)) s) :
    wpAny (model prog w) A (Builtin.Dict.samePairs nm a b) Q E s := by
  unfold Builtin.Dict.samePairs Builtin.Dict.showsAll
  rw [if_neg (show ¬ (a == sysModules) = true by rw [ha]; exact Bool.false_ne_true), if_neg (show ¬ (b == sysModules) = true by rw [hb]; exact Bool.false_ne_true)]
  refine wpAny_bind (wpAny_pure (wpAny_bind (wpAny_pure ?_)))
  refine wpAny_bind (wpAny_dictEntries hoa hda ?_)
  dsimp only
  refine wpAny_bind (wpAny_dictEntries hob hdb ?_)
  by_cases hsz : es.size = 0
  case neg =>
    rw [if_pos (by simpa using hsz)]
    rw [decide_eq_false hsz] at h
    exact wpAny_bind (wpAny_rule (wpAny_pure h))
  case pos =>
    rw [decide_eq_true hsz] at h
    rw [if_neg (by rw [hsz]; simp)]
    refine wpAny_bind (wpAny_dictEpoch hoa hda ?_)
    refine wpAny_bind ?_
    rw [Std.Legacy.Range.forIn_eq_forIn_range']
    simp only [Std.Legacy.Range.size, Nat.sub_zero, Nat.add_sub_cancel, Nat.div_one]
    rw [hsz]
    show wpAny _ _ (pure _) _ _ _
    refine wpAny_pure ?_
    exact wpAny_pure h
theorem eq0 {a b : Addr} {Q : Value → Shared → Prop} (ha : (a == sysModules) = false) (hb : (b == sysModules) = false) (ta : s.TypeIs (.ref a) "dict") (tb : s.TypeIs (.ref b) "dict")
    (hoa : s.heap.get? a = some oa) (hda : oa.data = .dict es ep) (hob : s.heap.get? b = some ob) (hdb : ob.data = .dict #[] ep') (hu : A.units < cLine) (h : Q (.bool (decide (es.size = 0))) s) :
    wpAny (model prog w) A (compareOp .Eq (.ref a) (.ref b)) Q E s := by
  refine wpAny_richCompare_same_room (op := .Eq) ta tb PySem.F.slot_dict_eq (wpAny_call_entry PySem.F.slot_dict_eq ta PySem.F.entry_dict_eq ?_ (PySem.F.args_dict_eq_2 _ _)) hu
  show wpAny _ _ (Builtin.Dict.dictSlotArgs "__eq__" ⟨[.ref a, .ref b], []⟩ >>= _) _ _ s
  refine wpAny_bind ?_
  unfold Builtin.Dict.dictSlotArgs
  refine wpAny_bind (wpAny_notOrdered_dict ta ?_)
  show wpAny _ _ (pure (Value.ref a, Value.ref b)) _ _ s
  refine wpAny_pure ?_
  refine wpAny_bind (wpAny_isInstance (T := "dict") tb PySem.F.sub_dict_dict ?_)
  simp only [Bool.not_true, Bool.false_eq_true, if_false]
  refine wpAny_bind (wpAny_pure (wpAny_bind (wpAny_pure ?_)))
  refine wpAny_bind (samePairs0 ha hb hoa hda hob hdb ?_)
  refine wpAny_pure ⟨_, rfl, ?_, ?_⟩
  · exact fun x => nomatch x
  · simpa using h
theorem ne0 {a b : Addr} {Q : Value → Shared → Prop} (ha : (a == sysModules) = false) (hb : (b == sysModules) = false) (ta : s.TypeIs (.ref a) "dict") (tb : s.TypeIs (.ref b) "dict")
    (hoa : s.heap.get? a = some oa) (hda : oa.data = .dict es ep) (hob : s.heap.get? b = some ob) (hdb : ob.data = .dict #[] ep') (hu : A.units < cLine) (h : Q (.bool (!decide (es.size = 0))) s) :
    wpAny (model prog w) A (compareOp .NotEq (.ref a) (.ref b)) Q E s := by
  refine wpAny_richCompare_same_room (op := .NotEq) ta tb PySem.F.slot_dict_ne (wpAny_call_entry PySem.F.slot_dict_ne ta PySem.F.entry_dict_ne ?_ (PySem.F.args_dict_ne_2 _ _)) hu
  show wpAny _ _ (Builtin.Dict.dictSlotArgs "__ne__" ⟨[.ref a, .ref b], []⟩ >>= _) _ _ s
  refine wpAny_bind ?_
  unfold Builtin.Dict.dictSlotArgs
  refine wpAny_bind (wpAny_notOrdered_dict ta ?_)
  show wpAny _ _ (pure (Value.ref a, Value.ref b)) _ _ s
  refine wpAny_pure ?_
  refine wpAny_bind (wpAny_isInstance (T := "dict") tb PySem.F.sub_dict_dict ?_)
  simp only [Bool.not_true, Bool.false_eq_true, if_false]
  refine wpAny_bind (wpAny_pure (wpAny_bind (wpAny_pure ?_)))
  refine wpAny_bind (samePairs0 ha hb hoa hda hob hdb ?_)
  refine wpAny_pure ⟨_, rfl, ?_, ?_⟩
  · exact fun x => nomatch x
  · simpa using h
end
end PySem.W
namespace MP
open PySem PySem.Spec PyProof.Rows L2
section
variable {X : Cx} {c : C}
noncomputable def rEq0T (neg : Bool) : R2 := fun x y H Q => ∃ a b ks, x = .ref a ∧ y = .ref b ∧ Rd H a (.dT ks) ∧ Rd H b (.dK []) ∧ Q (.bl (if neg then !decide (ks.length = 0) else decide (ks.length = 0))) H
theorem op_eq0T (hu : X.A.units + 65 < cLine) : OpR X (compareOp .Eq) (rEq0T false) := by
  intro pins s σ H x y v u Q I rx ry h
  obtain ⟨a, b, ks, rfl, rfl, ea, eb, q⟩ := h
  obtain rfl : v = Value.ref a := rx
  obtain rfl : u = Value.ref b := ry
  obtain ⟨_, ya, xs, rel, dd⟩ := dt_rd I.hok ea
  have ta := dd.typeIs
  obtain ⟨o, es, ep, h1, h2, h3, h4, h5, h6⟩ := dd
  obtain ⟨_, yb, vb, rb, db⟩ := dk_rd I.hok eb
  have tb := db.typeIs
  obtain ⟨o', es', ep', g1, g2, g3, g4, g5, g6⟩ := db
  cases rb
  obtain rfl : es' = #[] := by
    have := g5.length
    exact Array.eq_empty_of_size_eq_zero (by simpa using this)
  refine PySem.W.eq0 ya yb ta tb h1 h3 g1 g3 (by omega) ⟨.bl _, H, I, rfl, ?_⟩
  have e : es.size = ks.length := by rw [Paired.length rel]; have := congrArg List.length h4; simpa using this
  rw [e]; exact q
theorem op_ne0T (hu : X.A.units + 65 < cLine) : OpR X (compareOp .NotEq) (rEq0T true) := by
  intro pins s σ H x y v u Q I rx ry h
  obtain ⟨a, b, ks, rfl, rfl, ea, eb, q⟩ := h
  obtain rfl : v = Value.ref a := rx
  obtain rfl : u = Value.ref b := ry
  obtain ⟨_, ya, xs, rel, dd⟩ := dt_rd I.hok ea
  have ta := dd.typeIs
  obtain ⟨o, es, ep, h1, h2, h3, h4, h5, h6⟩ := dd
  obtain ⟨_, yb, vb, rb, db⟩ := dk_rd I.hok eb
  have tb := db.typeIs
  obtain ⟨o', es', ep', g1, g2, g3, g4, g5, g6⟩ := db
  cases rb
  obtain rfl : es' = #[] := by
    have := g5.length
    exact Array.eq_empty_of_size_eq_zero (by simpa using this)
  refine PySem.W.ne0 ya yb ta tb h1 h3 g1 g3 (by omega) ⟨.bl _, H, I, rfl, ?_⟩
  have e : es.size = ks.length := by rw [Paired.length rel]; have := congrArg List.length h4; simpa using this
  rw [e]; exact q
noncomputable def eq0M (neg : Bool) (a b : MV) (h : MH) : R MV := match asTD a h, asD b h with
  | some ks, some [] => .ok (.bl (if neg then !decide (ks.length = 0) else decide (ks.length = 0))) h
  | _, _ => .bad
theorem p_eq0 (neg : Bool) : P2 c (rEq0T neg) (eq0M neg) := fun ι β H mh a b x y Q W rel ra rb p => by
  unfold eq0M at p
  split at p
  · rename_i ks ea eb
    obtain ⟨a1, l1, rfl, h1, r1⟩ := asTD_rep ea rel ra
    obtain ⟨a2, l2, o2, rfl, h2, v2, r2⟩ := asD_rep eb rel rb
    have e2 : l2 = [] := r2
    subst e2
    refine ⟨a1, a2, l1, rfl, rfl, h1, rd_of_dv h2 v2, ?_⟩
    rw [← r1.length]
    exact p ι H _ .refl rel (rbl _ _ _)
  · exact p.elim
noncomputable def mEqC (a b : MV) (h : MH) : R MV := orB (mEqA a b h) (eq0M false a b h)
noncomputable def mNeC (a b : MV) (h : MH) : R MV := orB (mNeA a b h) (eq0M true a b h)
theorem op_eqC (hu : X.A.units + 65 < cLine) : OpR X (compareOp .Eq) (fun x y H Q => rEqAll X.K x y H Q ∨ rEq0T false x y H Q) := (op_eqX hu).or (op_eq0T hu)
theorem op_neC (hu : X.A.units + 65 < cLine) : OpR X (compareOp .NotEq) (fun x y H Q => rNeAll X.K x y H Q ∨ rEq0T true x y H Q) := (op_neX hu).or (op_ne0T hu)
theorem p_eqC : P2 c (fun x y H Q => rEqAll c.K x y H Q ∨ rEq0T false x y H Q) mEqC := p_eqX.orB (p_eq0 false)
theorem p_neC : P2 c (fun x y H Q => rNeAll c.K x y H Q ∨ rEq0T true x y H Q) mNeC := p_neX.orB (p_eq0 true)
end
end MP
namespace MP
open PySem PySem.Spec PyProof.Rows L2
abbrev AlM : Type := Bool × List He.FnV × List He.FnW
noncomputable def fnB (K : PySem.W.Frag) (d : He.FnD) : Bool := (He.Fa.code d.at_ d.qual).ok K && PySem.W.keepIn K (.ref (He.fAd K d.at_))
noncomputable def obsM (bs : PySem.W.Frag → List Bool) (fn : List He.FnD) (fw : List He.DefD) (K : PySem.W.Frag) : AlM :=
  ((bs K).all id && (fn.all (fnB K) && fw.all fun d => d.ok K), fn.map fun d => He.fnObs K d.at_, fw.map fun d => He.fnW K d.at_)
noncomputable def valM (fn : List He.FnD) (fw : List He.DefD) : AlM := (true, fn.map He.FnD.val, fw.map He.DefD.val)
noncomputable def SaysM (bs : PySem.W.Frag → List Bool) (fn : List He.FnD) (fw : List He.DefD) (K : PySem.W.Frag) : Prop := obsM bs fn fw K = valM fn fw
noncomputable def obsMG (n : Nat) (bs : PySem.W.Frag → List Bool) (fn : List He.FnD) (fw : List He.DefD) (g : Addr → Option Obj) : AlM := obsM bs fn fw (He.frG g (He.asD g n))
noncomputable def hookM (n : Nat) (bs : PySem.W.Frag → List Bool) (fn : List He.FnD) (fw : List He.DefD) : PySem.W.Hook where
  α := AlM
  obs := fun s => obsMG n bs fn fw s.heap.get?
  val := fun _ => valM fn fw
  says := fun _ h => ∃ K : PySem.W.Frag, K.In h ∧ SaysM bs fn fw K
  of := fun _ _ e => ⟨_, He.frG_in, e⟩
  keeps := fun _ _ _ ⟨K, hK, c⟩ k => ⟨K, PySem.W.Frag.In.keeps hK k, c⟩
theorem obsMG_eq {n : Nat} {bs : PySem.W.Frag → List Bool} {fn : List He.FnD} {fw : List He.DefD} {g : Addr → Option Obj} {s : Shared} (h : ∀ a, g a = s.heap.get? a) : obsMG n bs fn fw g = (hookM n bs fn fw).obs s := by
  have e : g = s.heap.get? := funext h
  rw [e] <;> rfl
noncomputable def fdAt (K : PySem.W.Frag) (a : Addr) : FuncData := match K.lookup a with
  | some ⟨_, _, .func fd, _⟩ => fd
  | _ => default
theorem fdAt_eq {K : PySem.W.Frag} {a : Addr} {c : Value} {od : Option Addr} {fd : FuncData} {sl : Array (Option Value)} (e : K.lookup a = some ⟨c, od, .func fd, sl⟩) : fdAt K a = fd := by
  unfold fdAt; rw [e]
/-- a def by its statement -/
abbrev fnD (at_ : Str × Option Str) (x q : Str) (st : Stmt) : He.FnD := ⟨at_, x, q, defArgs st, defBody st, defScope st⟩
abbrev fwD (at_ : Str × Option Str) (x q : Str) (st : Stmt) (kwd : List (Str × He.Dv)) : He.DefD := ⟨at_, x, q, defArgs st, defBody st, defScope st, [], kwd⟩
section
variable {bs : PySem.W.Frag → List Bool} {fn : List He.FnD} {fw : List He.DefD} {K : PySem.W.Frag}
theorem SaysM.all (c : SaysM bs fn fw K) : ((bs K).all id && (fn.all (fnB K) && fw.all fun d => d.ok K)) = true := congrArg (fun z : AlM => z.1) c
theorem SaysM.fact (c : SaysM bs fn fw K) (i : Nat) {b : Bool} (h : (bs K)[i]? = some b) : b = true :=
  List.all_eq_true.mp (He.ba c.all).1 b (List.mem_of_getElem? h)
theorem SaysM.fnA (c : SaysM bs fn fw K) (i : Nat) {at_ : Str × Option Str} {x q : Str} {st : Stmt} (h : fn[i]? = some (fnD at_ x q st)) : Fun K x q st (He.fAd K at_) (fdAt K (He.fAd K at_)) := by
  have c2 := List.all_eq_true.mp (He.ba (He.ba c.all).2).1 _ (List.mem_of_getElem? h)
  have e : fn.map (fun d => He.fnObs K d.at_) = fn.map He.FnD.val := congrArg (fun z : AlM => z.2.1) c
  have e2 : (fn.map fun d => He.fnObs K d.at_)[i]? = (fn.map He.FnD.val)[i]? := by rw [e]
  rw [List.getElem?_map, List.getElem?_map, h] at e2
  obtain ⟨oc, od, osl, kV, doc, pm, an, cdv, ct, lk, hcd⟩ := He.fn_ok (d := fnD at_ x q st) (Option.some.inj e2) (He.ba c2).1
  rw [fdAt_eq lk]
  exact fun_mk (st := st) lk hcd (He.ba c2).2
theorem SaysM.fwA (c : SaysM bs fn fw K) (i : Nat) {at_ : Str × Option Str} {x q : Str} {st : Stmt} {kwd : List (Str × He.Dv)} (h : fw[i]? = some (fwD at_ x q st kwd)) :
    FunD K x q (defArgs st) (defBody st) (defScope st) [] (kwd.map fun p => (p.1, p.2.v K)) (He.fAd K at_) (fdAt K (He.fAd K at_)) := by
  have c2 := List.all_eq_true.mp (He.ba (He.ba c.all).2).2 _ (List.mem_of_getElem? h)
  have e : fw.map (fun d => He.fnW K d.at_) = fw.map He.DefD.val := congrArg (fun z : AlM => z.2.2) c
  have e2 : (fw.map fun d => He.fnW K d.at_)[i]? = (fw.map He.DefD.val)[i]? := by rw [e]
  rw [List.getElem?_map, List.getElem?_map, h] at e2
  obtain ⟨fd, F⟩ := He.DefD.funD (d := fwD at_ x q st kwd) (Option.some.inj e2) c2
  have lk := F.ex
  obtain ⟨oc, od, dV, kV, doc, pm, an, cdv, ct, osl, e3, lk, _⟩ := lk
  rw [fdAt_eq lk]
  exact F
end
noncomputable def bInt (K : PySem.W.Frag) (x : Str) (i : Int) : Bool := (He.Fa.int x i).ok K
noncomputable def bStr (K : PySem.W.Frag) (x z : Str) : Bool := (He.Fa.str x z).ok K
noncomputable def bGlo (K : PySem.W.Frag) (x : Str) : Bool := (He.Fa.glo x).ok K
noncomputable def bFree (K : PySem.W.Frag) (x : Str) : Bool := (He.Fa.free x).ok K
noncomputable def bCls (K : PySem.W.Frag) (x : Str) : Bool := (He.Fa.cls x).ok K
noncomputable def bNo (K : PySem.W.Frag) (x f : Str) : Bool := (He.Fa.noat x f).ok K
noncomputable def bMeth (K : PySem.W.Frag) (x m : Str) : Bool := (He.Fa.meth x m).ok K
noncomputable def bMk (K : PySem.W.Frag) (x : Str) : Bool := (He.Fa.mkr x).ok K
noncomputable def bTup (K : PySem.W.Frag) (x : Str) (vs : List He.Dv) : Bool := He.tupB K x vs && He.eqO (PySem.W.nsIn K mainGlobals x) (some (some (.ref (He.ga K x))))
theorem bTup_ok {K : PySem.W.Frag} {x : Str} {vs : List He.Dv} (h : bTup K x vs = true) : KT K (He.ga K x) (vs.map (He.Dv.v K)) := by
  rcases He.tupB_ok (He.ba h).1 (fun _ => none) with z | z
  · rcases z with z | ⟨_, z⟩ <;> cases z
  · exact z
theorem bTup_g {K : PySem.W.Frag} {h : Heap} {mg : Str → Option Value} (X : K.In h) (G : h.Ns mainGlobals mg) {x : Str} {vs : List He.Dv} (e : bTup K x vs = true) : mg x = some (.ref (He.ga K x)) := PySem.W.mg_of X G (He.eqO_ok (He.ba e).2)
/-- the law's end -/
theorem walkH {l : PySem.W.OpenLaw} {q : Program} {loose : List Str} {XP : (Str → Option Value) → Heap → Prop} {d : DefRec} {k m : Nat} {bs : PySem.W.Frag → List Bool} {fn : List He.FnD} {fw : List He.DefD} (hn : l.most = some 63) (hdf : d.params.defaults = []) (hr : Room k callerA)
    (F : ∀ (w : World) (mg : Str → Option Value) (fa : Addr) (h : Heap) (K : PySem.W.Frag), K.In h → SaysM bs fn fw K → h.Ns mainGlobals mg → mg d.name = some (.ref fa) →
      ∃ fd : FuncData, (∀ (s : Shared) (u : Value), BindsTo s fd ⟨[u], []⟩ [("_law_script", u)]) ∧ ∀ base : Heap, K.In base → base.Ns mainGlobals mg → FnG l.prog w K mg base (L2N.CX l.prog w) k fa fd ["_law_script"] (spLaw K)) :
    PySem.W.WalkO q loose XP (hookM m bs fn fw).says l.row.toRowW d [] (fun f vs => PySem.call f vs) := by
  apply Att.attach_call hn hdf
  intro w s₀ s₁ mg mb fa o pm cd doc a vs ns G Y ho hd hcd hmg hobj hints hlen hg
  obtain ⟨K, KX, c⟩ := Y
  obtain ⟨fd, hb, hF⟩ := F w mg fa _ K KX c G.T.g hmg
  exact callG KX G.T.g G.T.b G.T.builtins G.T.nolimit hg hobj hints (Nat.le_trans hlen (by decide)) hr hF hb (fun H hO hS => ⟨a, ns, rfl, hlen, hO, hS, fun _ => rfl⟩) fun H e s' h => by
    obtain ⟨_, _, _, _, _, _, _, _, _, _, _, _, z⟩ := h
    exact z.elim
end MP
namespace MP
open PySem PySem.Spec PyProof.Rows L2
noncomputable def c_LONGEST : EM := mC (.int 8)
noncomputable def c_LOT : EM := mC (.int 8)
noncomputable def c_MOST_ADDRESS : EM := mC (.int 31)
noncomputable def c_MOST_SIZE : EM := mC (.int 64)
noncomputable def c_MOST_WORTH : EM := mC (.int (1000000000))
noncomputable def c_NO_WORDS : EM := mC (.tup [.str (Str.ofString "house"), .str (Str.ofString "kept")])
noncomputable def c_RIGHTS : EM := mC (.tup [.str (Str.ofString "read"), .str (Str.ofString "write")])
noncomputable def c_SIGNS : EM := mC (.str (Str.ofString "abcdefghijklmnopqrstuvwxyz"))
noncomputable def c_STRETCH : EM := mC (.int 4)
noncomputable def mb_is_whole : SM :=
  (sRet (mAndV (m1 (isT .int) (mVar 0)) (mNotV (m1 (isT .bl) (mVar 0)))))
noncomputable def m_is_whole : List MV → MH → R MV := fnM 1 mb_is_whole
noncomputable def mb_is_from : SM :=
  (sRet (mAndV (mN (cF 1 m_is_whole) (mCons (mVar 0) mNil)) (m3c mLe mLe (mVar 1) (mVar 0) (mVar 2))))
noncomputable def m_is_from : List MV → MH → R MV := fnM 3 mb_is_from
noncomputable def mb_is_size : SM :=
  (sRet (mAndV (mN (cF 3 m_is_from) (mCons (mVar 0) (mCons c_LOT (mCons c_MOST_SIZE mNil)))) (m2 mEqA (m2 mModI (mVar 0) c_LOT) (mC (.int 0)))))
noncomputable def m_is_size : List MV → MH → R MV := fnM 1 mb_is_size
noncomputable def mb_is_frame : SM :=
  (sRet (mN (cR 3 m_is_from) (mCons (mVar 1) (mCons (mC (.int 0)) (mCons (m2 mSubI (mVar 0) (mC (.int 1))) mNil)))))
noncomputable def m_is_frame : List MV → MH → R MV := fnM 2 mb_is_frame
noncomputable def mb_look_at_size : SM :=
  (sIf (mNot (mTru (mN (cF 1 m_is_size) (mCons (mVar 0) mNil))))
  sNever
  sNil)
noncomputable def m_look_at_size : List MV → MH → R MV := fnM 1 mb_look_at_size
noncomputable def mb_is_rights : SM :=
  (sRet (mAndV (m1 (isT .str) (mVar 0)) (m2 mInS (mVar 0) c_RIGHTS)))
noncomputable def m_is_rights : List MV → MH → R MV := fnM 1 mb_is_rights
noncomputable def le_is_word_0 : EM :=
  (m2 mInSg (mVar 1) c_SIGNS)
noncomputable def mb_is_word : SM :=
  (sSeq (sIf (mOr (mNot (mTru (m1 (isT .str) (mVar 0)))) (mOr (mNot (mB (m3c mLe mLe (mC (.int 1)) (mN mLenC (mCons (mVar 0) mNil)) c_LONGEST))) (mB (m2 mInS (mVar 0) c_NO_WORDS))))
  (sRet (mC (.bl false)))
  sNil)
  (sRet (mN mAll (mCons (mLc (iS (mVar 0)) (.nm 1) mYes le_is_word_0 [1] finV) mNil))))
noncomputable def m_is_word : List MV → MH → R MV := fnM 2 mb_is_word
noncomputable def mb_is_worth : SM :=
  (sRet (mN (cR 3 m_is_from) (mCons (mVar 0) (mCons (m1 mNeg c_MOST_WORTH) (mCons c_MOST_WORTH mNil)))))
noncomputable def m_is_worth : List MV → MH → R MV := fnM 1 mb_is_worth
noncomputable def mb_look_at_worth : SM :=
  (sIf (mNot (mTru (mN (cF 1 m_is_worth) (mCons (mVar 0) mNil))))
  sNever
  sNil)
noncomputable def m_look_at_worth : List MV → MH → R MV := fnM 1 mb_look_at_worth
noncomputable def mb_look_at_address : SM :=
  (sIf (mNot (mTru (mN (cF 3 m_is_from) (mCons (mVar 0) (mCons (mC (.int 0)) (mCons c_MOST_ADDRESS mNil))))))
  sNever
  sNil)
noncomputable def m_look_at_address : List MV → MH → R MV := fnM 1 mb_look_at_address
noncomputable def mb_look_at_rights : SM :=
  (sIf (mNot (mTru (mN (cF 1 m_is_rights) (mCons (mVar 0) mNil))))
  sNever
  sNil)
noncomputable def m_look_at_rights : List MV → MH → R MV := fnM 1 mb_look_at_rights
noncomputable def lt_for_tenant_0 : TM :=
  (mB (m2 mNotInC (m2 mDivI (mVar 3) c_LOT) (mVar 1)))
noncomputable def le_for_tenant_0 : EM :=
  (mVar 3)
noncomputable def mb_for_tenant : SM :=
  (sSeq (sSet 2 (mLc (iL (mVar 0)) (.nm 3) lt_for_tenant_0 le_for_tenant_0 [3] finV))
  (sRet (m2 mIxA (m2 (mAdd finV) (mVar 2) (mVar 0)) (mC (.int 0)))))
noncomputable def m_for_tenant : List MV → MH → R MV := fnM 4 mb_for_tenant
noncomputable def mb_Move___init__ : SM :=
  (sSeq (sFldM [1] (Str.ofString "frame_from") (mVar 1) (mVar 0))
  (sSeq (sFldM [1] (Str.ofString "frame_to") (mVar 2) (mVar 0))
  (sSeq (sFldM [1] (Str.ofString "has_copied") (mC (.bl false)) (mVar 0))
  (sFldM [1] (Str.ofString "right_ones") mDictT (mVar 0)))))
noncomputable def m_Move___init__ : List MV → MH → R MV := fnM 3 mb_Move___init__
noncomputable def mb_Move_told : SM :=
  (sRet (mN mkTup (mCons (m1 (mFld [1] (Str.ofString "frame_from")) (mVar 0)) (mCons (m1 (mFld [1] (Str.ofString "frame_to")) (mVar 0)) (mCons (m1 (mFld [1] (Str.ofString "has_copied")) (mVar 0)) (mCons (mN mLenC (mCons (m1 (mFld [1] (Str.ofString "right_ones")) (mVar 0)) mNil)) mNil))))))
noncomputable def m_Move_told : List MV → MH → R MV := fnM 1 mb_Move_told
noncomputable def mb_Store___init__ : SM :=
  (sSeq (sExpr (mN (cF 1 m_look_at_size) (mCons (mVar 1) mNil)))
  (sSeq (sFldM [0] (Str.ofString "own_size") (mVar 1) (mVar 0))
  (sSeq (sFldM [0] (Str.ofString "worths") mDict (mVar 0))
  (sSeq (sFldM [0] (Str.ofString "house_frames") mDict (mVar 0))
  (sSeq (sFldM [0] (Str.ofString "kept_worths") mDict (mVar 0))
  (sSeq (sFldM [0] (Str.ofString "own_pins") mDict (mVar 0))
  (sSeq (sFldM [0] (Str.ofString "spots") mDict (mVar 0))
  (sSeq (sFldM [0] (Str.ofString "tables") mDict (mVar 0))
  (sFldM [0] (Str.ofString "own_moves") mDict (mVar 0))))))))))
noncomputable def m_Store___init__ : List MV → MH → R MV := fnM 2 mb_Store___init__
noncomputable def lb_Store_held_for_0 : SM :=
  (sIf (mB (m2 mEqA (m1 (mFld [1] (Str.ofString "frame_to")) (mVar 2)) (mVar 1)))
  (sRet (m1 (mFld [1] (Str.ofString "frame_from")) (mVar 2)))
  sNil)
noncomputable def mb_Store_held_for : SM :=
  (sSeq (sLk (m1 (mFld [0] (Str.ofString "own_moves")) (mVar 0)) (sFor (iVR (m1 (mFld [0] (Str.ofString "own_moves")) (mVar 0))) (gmName 2) lb_Store_held_for_0))
  (sRet (mC .non)))
noncomputable def m_Store_held_for : List MV → MH → R MV := fnM 3 mb_Store_held_for
noncomputable def mb_Store_what : SM :=
  (sSeq (sIf (mNot (mTru (mN (cF 2 m_is_frame) (mCons (m1 (mFld [0] (Str.ofString "own_size")) (mVar 0)) (mCons (mVar 1) mNil)))))
  sNever
  sNil)
  (sSeq (sIf (mB (m2 mInC (mVar 1) (m1 (mFld [0] (Str.ofString "house_frames")) (mVar 0))))
  (sRet (mN mkTup (mCons (mC (.str (Str.ofString "house"))) mNil)))
  sNil)
  (sSeq (sIf (mB (m2 mInC (mVar 1) (m1 (mFld [0] (Str.ofString "kept_worths")) (mVar 0))))
  (sRet (mN mkTup (mCons (mC (.str (Str.ofString "kept"))) (mCons (m2 mIxA (m1 (mFld [0] (Str.ofString "kept_worths")) (mVar 0)) (mVar 1)) mNil))))
  sNil)
  (sSeq (sIf (mB (m2 mIsNot (mMethC 0 (Str.ofString "held_for") (mVar 0) (mCons (mVar 1) mNil) fun v as h => cF 2 m_Store_held_for (v :: (as ++ [])) h) (mC .non)))
  (sRet (mN mkTup (mCons (mC (.str (Str.ofString "held"))) (mCons (mMethC 0 (Str.ofString "held_for") (mVar 0) (mCons (mVar 1) mNil) fun v as h => cF 2 m_Store_held_for (v :: (as ++ [])) h) mNil))))
  sNil)
  (sSeq (sIf (mB (m2 mInC (mVar 1) (m1 (mFld [0] (Str.ofString "worths")) (mVar 0))))
  (sRet (mN mkTup (mCons (mC (.str (Str.ofString "tenants"))) (mCons (m2 mIxA (m1 (mFld [0] (Str.ofString "worths")) (mVar 0)) (mVar 1)) (mCons (m1 mTup1 (mN (mSrt finV) (mCons (m2 mIxA (m1 (mFld [0] (Str.ofString "spots")) (mVar 0)) (mVar 1)) mNil))) mNil)))))
  sNil)
  (sRet (mN mkTup (mCons (mC (.str (Str.ofString "free"))) mNil))))))))
noncomputable def m_Store_what : List MV → MH → R MV := fnM 2 mb_Store_what
noncomputable def mb_Store_table_of : SM :=
  (sSeq (sIf (mOr (mNot (mTru (m1 (isT .str) (mVar 1)))) (mB (m2 mNotInC (mVar 1) (m1 (mFld [0] (Str.ofString "tables")) (mVar 0)))))
  sNever
  sNil)
  (sRet (m2 mIxA (m1 (mFld [0] (Str.ofString "tables")) (mVar 0)) (mVar 1))))
noncomputable def m_Store_table_of : List MV → MH → R MV := fnM 2 mb_Store_table_of
noncomputable def lb_Store_table_0 : SM :=
  (sSeq (sSet 7 (m2D mDGet1 (m1 (mFld [0] (Str.ofString "own_moves")) (mVar 0)) (mVar 4)))
  (sIf (mTru (mVar 6))
  (sIf (mB (m2 mEqA (m2 mModI (mVar 3) c_STRETCH) (mC (.int 0))))
  (sSetC (mN mkTup (mCons (mC (.str (Str.ofString "great"))) (mCons (mVar 4) (mCons (mVar 5) mNil)))) (mVar 2) (mVar 3))
  sNil)
  (sIf (mB (m2 mIs (mVar 7) (mC .non)))
  (sSetC (mN mkTup (mCons (mC (.str (Str.ofString "small"))) (mCons (mVar 4) (mCons (mVar 5) mNil)))) (mVar 2) (mVar 3))
  (sIf (mB (m2 mInC (mN mkTup (mCons (mVar 1) (mCons (mVar 3) mNil))) (m1 (mFld [1] (Str.ofString "right_ones")) (mVar 7))))
  (sSetC (mN mkTup (mCons (mC (.str (Str.ofString "small"))) (mCons (m1 (mFld [1] (Str.ofString "frame_to")) (mVar 7)) (mCons (mVar 5) mNil)))) (mVar 2) (mVar 3))
  (sSetC (mN mkTup (mCons (mC (.str (Str.ofString "moving"))) (mCons (mVar 4) (mCons (mVar 5) mNil)))) (mVar 2) (mVar 3))))))
noncomputable def mb_Store_table : SM :=
  (sSeq (sSet 2 mDict)
  (sSeq (sFor (iL (m1 (mSrtI finV) (mMethC 0 (Str.ofString "table_of") (mVar 0) (mCons (mVar 1) mNil) fun v as h => cF 2 m_Store_table_of (v :: (as ++ [])) h))) (gmTup (gmCons (gmName 3) (gmCons (gmTup (gmCons (gmName 4) (gmCons (gmName 5) (gmCons (gmName 6) gmNil))) 3) gmNil)) 2) lb_Store_table_0)
  (sRet (mVar 2))))
noncomputable def m_Store_table : List MV → MH → R MV := fnM 8 mb_Store_table
noncomputable def lt_Store_free_0 : TM :=
  (mB (m2 mEqA (mMethC 0 (Str.ofString "what") (mVar 0) (mCons (mVar 1) mNil) fun v as h => cF 2 m_Store_what (v :: (as ++ [])) h) (mN mkTup (mCons (mC (.str (Str.ofString "free"))) mNil))))
noncomputable def le_Store_free_0 : EM :=
  (mVar 1)
noncomputable def mb_Store_free : SM :=
  (sRet (mLc (fun σ h => bindR ((mCons (m1 (mFld [0] (Str.ofString "own_size")) (mVar 0)) mNil) σ h) itR1) (.nm 1) lt_Store_free_0 le_Store_free_0 [1] finR))
noncomputable def m_Store_free : List MV → MH → R MV := fnM 2 mb_Store_free
noncomputable def le_Store_lots_of_house_0 : EM :=
  (m2 mDivI (mVar 1) c_LOT)
noncomputable def le_Store_lots_of_house_1 : EM :=
  (mC (.bl true))
noncomputable def mb_Store_lots_of_house : SM :=
  (sRet (eLk (m1 (mFld [0] (Str.ofString "house_frames")) (mVar 0)) (mDc1 (iKR (m1 (mFld [0] (Str.ofString "house_frames")) (mVar 0))) (.nm 1) le_Store_lots_of_house_0 le_Store_lots_of_house_1 [1] finDR)))
noncomputable def m_Store_lots_of_house : List MV → MH → R MV := fnM 2 mb_Store_lots_of_house
noncomputable def mb_Store_free_one : SM :=
  (sSeq (sSet 2 (mMethC 0 (Str.ofString "free") (mVar 0) mNil fun v as h => cF 1 m_Store_free (v :: (as ++ [])) h))
  (sSeq (sIf (mAnd (mB (m2 mEqA (mVar 2) (mN mkLv mNil))) (mAnd (mTru (mVar 1)) (mB (m2 mNeC (m1 (mFld [0] (Str.ofString "kept_worths")) (mVar 0)) mDictV))))
  (sSeq (sExpr (m2D mDPop (m1 (mFld [0] (Str.ofString "kept_worths")) (mVar 0)) (mN mMin (mCons (m1 (mFld [0] (Str.ofString "kept_worths")) (mVar 0)) mNil))))
  (sSet 2 (mMethC 0 (Str.ofString "free") (mVar 0) mNil fun v as h => cF 1 m_Store_free (v :: (as ++ [])) h)))
  sNil)
  (sSeq (sIf (mB (m2 mEqA (mVar 2) (mN mkLv mNil)))
  sNever
  sNil)
  (sRet (mVar 2)))))
noncomputable def m_Store_free_one : List MV → MH → R MV := fnM 3 mb_Store_free_one
noncomputable def mb_Store_frame_for_tenant : SM :=
  (sRet (mN (cF 2 m_for_tenant) (mCons (mMethK 0 1 1 (Str.ofString "free_one") (mVar 0) mNil (mCons (mVar 1) mNil) (cN 2 m_Store_free_one)) (mCons (mMethC 0 (Str.ofString "lots_of_house") (mVar 0) mNil fun v as h => cF 1 m_Store_lots_of_house (v :: (as ++ [])) h) mNil))))
noncomputable def m_Store_frame_for_tenant : List MV → MH → R MV := fnM 2 mb_Store_frame_for_tenant
noncomputable def mb_Store_come : SM :=
  (sSeq (sIf (mNot (mTru (mN (cF 1 m_is_word) (mCons (mVar 1) mNil))))
  sNever
  sNil)
  (sSeq (sIf (mB (m2 mInC (mVar 1) (m1 (mFld [0] (Str.ofString "tables")) (mVar 0))))
  sNever
  sNil)
  (sSetC mDict (m1 (mFld [0] (Str.ofString "tables")) (mVar 0)) (mVar 1))))
noncomputable def m_Store_come : List MV → MH → R MV := fnM 2 mb_Store_come
noncomputable def mb_Store_entry_at : SM :=
  (sSeq (sSet 3 (mMethC 0 (Str.ofString "table_of") (mVar 0) (mCons (mVar 1) mNil) fun v as h => cF 2 m_Store_table_of (v :: (as ++ [])) h))
  (sSeq (sExpr (mN (cF 1 m_look_at_address) (mCons (mVar 2) mNil)))
  (sSeq (sIf (mB (m2 mNotInC (mVar 2) (mVar 3)))
  sNever
  sNil)
  (sRet (m2 mIxA (mVar 3) (mVar 2))))))
noncomputable def m_Store_entry_at : List MV → MH → R MV := fnM 4 mb_Store_entry_at
noncomputable def mb_Store_tie : SM :=
  (sSeq (sSetC (mN mkTup (mCons (mVar 3) (mCons (mVar 4) (mCons (mC (.bl false)) mNil)))) (m2 mIxA (m1 (mFld [0] (Str.ofString "tables")) (mVar 0)) (mVar 1)) (mVar 2))
  (sSetC (mC (.bl true)) (m3D mSetd (m1 (mFld [0] (Str.ofString "spots")) (mVar 0)) (mVar 3) mDictT) (mN mkTup (mCons (mVar 1) (mCons (mVar 2) mNil)))))
noncomputable def m_Store_tie : List MV → MH → R MV := fnM 5 mb_Store_tie
noncomputable def mb_Store_lay_frame : SM :=
  (sSeq (sSet 5 (mMethC 0 (Str.ofString "frame_for_tenant") (mVar 0) mNil fun v as h => cN 2 m_Store_frame_for_tenant (v :: (as ++ [.bl true])) h))
  (sSeq (sSetC (mVar 3) (m1 (mFld [0] (Str.ofString "worths")) (mVar 0)) (mVar 5))
  (sExpr (mMethC 0 (Str.ofString "tie") (mVar 0) (mCons (mVar 1) (mCons (mVar 2) (mCons (mVar 5) (mCons (mVar 4) mNil)))) fun v as h => cN 5 m_Store_tie (v :: (as ++ [])) h))))
noncomputable def m_Store_lay_frame : List MV → MH → R MV := fnM 6 mb_Store_lay_frame
noncomputable def mb_Store_give : SM :=
  (sSeq (sSet 5 (mMethC 0 (Str.ofString "table_of") (mVar 0) (mCons (mVar 1) mNil) fun v as h => cF 2 m_Store_table_of (v :: (as ++ [])) h))
  (sSeq (sExpr (mN (cF 1 m_look_at_address) (mCons (mVar 2) mNil)))
  (sSeq (sExpr (mN (cF 1 m_look_at_worth) (mCons (mVar 3) mNil)))
  (sSeq (sExpr (mN (cF 1 m_look_at_rights) (mCons (mVar 4) mNil)))
  (sSeq (sIf (mB (m2 mInC (mVar 2) (mVar 5)))
  sNever
  sNil)
  (sExpr (mMethC 0 (Str.ofString "lay_frame") (mVar 0) (mCons (mVar 1) (mCons (mVar 2) (mCons (mVar 3) (mCons (mVar 4) mNil)))) fun v as h => cN 5 m_Store_lay_frame (v :: (as ++ [])) h)))))))
noncomputable def m_Store_give : List MV → MH → R MV := fnM 6 mb_Store_give
noncomputable def mb_Store_read : SM :=
  (sRet (m2 mIxA (m1 (mFld [0] (Str.ofString "worths")) (mVar 0)) (m2 mIxA (mMethC 0 (Str.ofString "entry_at") (mVar 0) (mCons (mVar 1) (mCons (mVar 2) mNil)) fun v as h => cF 3 m_Store_entry_at (v :: (as ++ [])) h) (mC (.int 0)))))
noncomputable def m_Store_read : List MV → MH → R MV := fnM 3 mb_Store_read
noncomputable def lb_Store_part_at_0 : SM :=
  (sSetC (m2 (mAdd finV) (m3o (mSl finV) (m2 mIxA (mVar 3) (mVar 5)) oNone (oSome (mC (.int 2)))) (mN mkTup (mCons (mC (.bl false)) mNil))) (mVar 3) (mVar 5))
noncomputable def mb_Store_part_at : SM :=
  (sSeq (sSet 3 (m2 mIxA (m1 (mFld [0] (Str.ofString "tables")) (mVar 0)) (mVar 1)))
  (sIf (mTru (m2 mIxA (m2 mIxA (mVar 3) (mVar 2)) (mC (.int 2))))
  (sSeq (sSet 4 (m2 mSubI (mVar 2) (m2 mModI (mVar 2) c_STRETCH)))
  (sFor (fun σ h => bindR ((mCons (mVar 4) (mCons (m2 (mAdd finV) (mVar 4) c_STRETCH) mNil)) σ h) itR2) (gmName 5) lb_Store_part_at_0))
  sNil))
noncomputable def m_Store_part_at : List MV → MH → R MV := fnM 6 mb_Store_part_at
noncomputable def mb_Store_share : SM :=
  (sSeq (sAsg (mMethC 0 (Str.ofString "entry_at") (mVar 0) (mCons (mVar 1) (mCons (mVar 2) mNil)) fun v as h => cF 3 m_Store_entry_at (v :: (as ++ [])) h) (gmTup (gmCons (gmName 5) (gmCons (gmName 6) (gmCons (gmName 7) gmNil))) 3))
  (sSeq (sSet 8 (mMethC 0 (Str.ofString "table_of") (mVar 0) (mCons (mVar 3) mNil) fun v as h => cF 2 m_Store_table_of (v :: (as ++ [])) h))
  (sSeq (sExpr (mN (cF 1 m_look_at_address) (mCons (mVar 4) mNil)))
  (sSeq (sIf (mB (m2 mInC (mVar 4) (mVar 8)))
  sNever
  sNil)
  (sSeq (sExpr (mMethC 0 (Str.ofString "part_at") (mVar 0) (mCons (mVar 1) (mCons (mVar 2) mNil)) fun v as h => cN 3 m_Store_part_at (v :: (as ++ [])) h))
  (sSeq (sExpr (mMethC 0 (Str.ofString "tie") (mVar 0) (mCons (mVar 3) (mCons (mVar 4) (mCons (mVar 5) (mCons (mVar 6) mNil)))) fun v as h => cN 5 m_Store_tie (v :: (as ++ [])) h))
  (sSeq (sSet 9 (m2D mDGet1 (m1 (mFld [0] (Str.ofString "own_moves")) (mVar 0)) (mVar 5)))
  (sIf (mAnd (mB (m2 mIsNot (mVar 9) (mC .non))) (mB (m2 mInC (mN mkTup (mCons (mVar 1) (mCons (mVar 2) mNil))) (m1 (mFld [1] (Str.ofString "right_ones")) (mVar 9)))))
  (sSetC (mC (.bl true)) (m1 (mFld [1] (Str.ofString "right_ones")) (mVar 9)) (mN mkTup (mCons (mVar 3) (mCons (mVar 4) mNil))))
  sNil))))))))
noncomputable def m_Store_share : List MV → MH → R MV := fnM 10 mb_Store_share
noncomputable def lb_Store_begin_0 : SM :=
  (sExpr (mMethC 0 (Str.ofString "part_at") (mVar 0) (mCons (mVar 3) (mCons (mVar 4) mNil)) fun v as h => cN 3 m_Store_part_at (v :: (as ++ [])) h))
noncomputable def mb_Store_begin : SM :=
  (sSeq (sIf (mOr (mB (m2 mNeA (m2 mIxA (mMethC 0 (Str.ofString "what") (mVar 0) (mCons (mVar 1) mNil) fun v as h => cF 2 m_Store_what (v :: (as ++ [])) h) (mC (.int 0))) (mC (.str (Str.ofString "tenants"))))) (mB (m2 mEqC (m2 mIxA (m1 (mFld [0] (Str.ofString "spots")) (mVar 0)) (mVar 1)) mDictV)))
  sNever
  sNil)
  (sSeq (sIf (mB (m2 mInC (mVar 1) (m1 (mFld [0] (Str.ofString "own_pins")) (mVar 0))))
  sNever
  sNil)
  (sSeq (sIf (mB (m2 mInC (mVar 1) (m1 (mFld [0] (Str.ofString "own_moves")) (mVar 0))))
  sNever
  sNil)
  (sSeq (sIf (mB (m2 mNeA (mMethC 0 (Str.ofString "what") (mVar 0) (mCons (mVar 2) mNil) fun v as h => cF 2 m_Store_what (v :: (as ++ [])) h) (mN mkTup (mCons (mC (.str (Str.ofString "free"))) mNil))))
  sNever
  sNil)
  (sSeq (sFor (iL (mN (mSrt finV) (mCons (m2 mIxA (m1 (mFld [0] (Str.ofString "spots")) (mVar 0)) (mVar 1)) mNil))) (gmTup (gmCons (gmName 3) (gmCons (gmName 4) gmNil)) 2) lb_Store_begin_0)
  (sSetC (mN (mMake 1 3 m_Move___init__) (mCons (mVar 1) (mCons (mVar 2) mNil))) (m1 (mFld [0] (Str.ofString "own_moves")) (mVar 0)) (mVar 1)))))))
noncomputable def m_Store_begin : List MV → MH → R MV := fnM 5 mb_Store_begin
noncomputable def mb_Store_move_of : SM :=
  (sSeq (sIf (mOr (mNot (mTru (mN (cF 1 m_is_whole) (mCons (mVar 1) mNil)))) (mB (m2 mNotInC (mVar 1) (m1 (mFld [0] (Str.ofString "own_moves")) (mVar 0)))))
  sNever
  sNil)
  (sRet (m2 mIxA (m1 (mFld [0] (Str.ofString "own_moves")) (mVar 0)) (mVar 1))))
noncomputable def m_Store_move_of : List MV → MH → R MV := fnM 2 mb_Store_move_of
noncomputable def lb_Store_finish_0 : SM :=
  (sSeq (sAsg (m2 mIxA (m2 mIxA (m1 (mFld [0] (Str.ofString "tables")) (mVar 0)) (mVar 4)) (mVar 5)) (gmTup (gmCons (gmName 6) (gmCons (gmName 7) (gmCons (gmName 8) gmNil))) 3))
  (sSetC (mN mkTup (mCons (mVar 3) (mCons (mVar 7) (mCons (mC (.bl false)) mNil)))) (m2 mIxA (m1 (mFld [0] (Str.ofString "tables")) (mVar 0)) (mVar 4)) (mVar 5)))
noncomputable def mb_Store_finish : SM :=
  (sSeq (sPar 2 3 (mCons (m1 (mFld [1] (Str.ofString "frame_from")) (mVar 1)) (mCons (m1 (mFld [1] (Str.ofString "frame_to")) (mVar 1)) mNil)))
  (sSeq (sExpr (m2D mDPop (m1 (mFld [0] (Str.ofString "own_moves")) (mVar 0)) (mVar 2)))
  (sSeq (sSetC (m2D mDPop (m1 (mFld [0] (Str.ofString "worths")) (mVar 0)) (mVar 2)) (m1 (mFld [0] (Str.ofString "worths")) (mVar 0)) (mVar 3))
  (sSeq (sSetC (m2D mDPop (m1 (mFld [0] (Str.ofString "spots")) (mVar 0)) (mVar 2)) (m1 (mFld [0] (Str.ofString "spots")) (mVar 0)) (mVar 3))
  (sLk (m2 mIxA (m1 (mFld [0] (Str.ofString "spots")) (mVar 0)) (mVar 3)) (sFor (iKR (m2 mIxA (m1 (mFld [0] (Str.ofString "spots")) (mVar 0)) (mVar 3))) (gmTup (gmCons (gmName 4) (gmCons (gmName 5) gmNil)) 2) lb_Store_finish_0))))))
noncomputable def m_Store_finish : List MV → MH → R MV := fnM 9 mb_Store_finish
noncomputable def lt_Store_step_0 : TM :=
  (mB (m2 mNotInC (mVar 4) (m1 (mFld [1] (Str.ofString "right_ones")) (mVar 2))))
noncomputable def le_Store_step_0 : EM :=
  (mVar 4)
noncomputable def mb_Store_step : SM :=
  (sSeq (sSet 2 (mMethC 0 (Str.ofString "move_of") (mVar 0) (mCons (mVar 1) mNil) fun v as h => cF 2 m_Store_move_of (v :: (as ++ [])) h))
  (sSeq (sIf (mNot (mTru (m1 (mFld [1] (Str.ofString "has_copied")) (mVar 2))))
  (sSeq (sFldM [1] (Str.ofString "has_copied") (mC (.bl true)) (mVar 2))
  (sRet (mN mkTup (mCons (mC (.str (Str.ofString "copied"))) mNil))))
  sNil)
  (sSeq (sSet 3 (mLc (iL (mN (mSrt finV) (mCons (m2 mIxA (m1 (mFld [0] (Str.ofString "spots")) (mVar 0)) (mVar 1)) mNil))) (.nm 4) lt_Store_step_0 le_Store_step_0 [4] finV))
  (sSeq (sIf (mB (m2 mNeA (mVar 3) (mN mkLv mNil)))
  (sSeq (sSetC (mC (.bl true)) (m1 (mFld [1] (Str.ofString "right_ones")) (mVar 2)) (m2 mIxA (mVar 3) (mC (.int 0))))
  (sRet (m2 (mAdd finV) (mN mkTup (mCons (mC (.str (Str.ofString "right"))) mNil)) (m2 mIxA (mVar 3) (mC (.int 0))))))
  sNil)
  (sSeq (sExpr (mMethC 0 (Str.ofString "finish") (mVar 0) (mCons (mVar 2) mNil) fun v as h => cN 2 m_Store_finish (v :: (as ++ [])) h))
  (sRet (mN mkTup (mCons (mC (.str (Str.ofString "done"))) mNil))))))))
noncomputable def m_Store_step : List MV → MH → R MV := fnM 5 mb_Store_step
noncomputable def le_Store_moves_0 : EM :=
  (mMethC 1 (Str.ofString "told") (mVar 1) mNil fun v as h => cF 1 m_Move_told (v :: (as ++ [])) h)
noncomputable def mb_Store_moves : SM :=
  (sRet (mN (mSrt finR) (mCons (eLk (m1 (mFld [0] (Str.ofString "own_moves")) (mVar 0)) (mLc (iVR (m1 (mFld [0] (Str.ofString "own_moves")) (mVar 0))) (.nm 1) mYes le_Store_moves_0 [1] finV)) mNil)))
noncomputable def m_Store_moves : List MV → MH → R MV := fnM 2 mb_Store_moves
noncomputable def mb_law_pool : SM :=
  (sSeq (sSet 2 (mC (.int 0)))
  (sSeq (sIf (mB (m2 mLt (mVar 1) (mN mLenC (mCons (mVar 0) mNil))))
  (sSet 2 (m2 mIxA (mVar 0) (mVar 1)))
  sNil)
  (sSeq (sSet 3 (mN mMax (mCons (mVar 2) (mCons (m2 mSubI (m1 mNeg (mC (.int 1))) (mVar 2)) mNil))))
  (sSeq (sSet 4 (m2 mModI (m2 (mMul finV) (m2 (mAdd finV) (m2 (mAdd finV) (m2 (mAdd finV) (m2 mModI (mVar 3) (mC (.int 2147483629))) (m2 (mMul finV) (m2 (mMul finV) (mC (.int 7919)) (mVar 1)) (mVar 1))) (m2 (mMul finV) (mC (.int 31)) (mVar 1))) (mC (.int 17))) (mC (.int 48271))) (mC (.int 2147483647))))
  (sRet (mN mkLst (mCons (m2 (mMul finV) (mVar 3) (mN mInt (mCons (m2 mGe (mVar 3) (m2 mPowI (mC (.int 10)) (mC (.int 18)))) mNil))) (mCons (mVar 4) mNil))))))))
noncomputable def m_law_pool : List MV → MH → R MV := fnM 5 mb_law_pool
noncomputable def mb_law_draw : SM :=
  (sSeq (sIf (mB (m2 mGt (m2 mIxA (mVar 0) (mC (.int 0))) (mC (.int 0))))
  (sSeq (sSet 2 (m2 mModI (m2 mIxA (mVar 0) (mC (.int 0))) (mVar 1)))
  (sSeq (sSetC (m2 mDivI (m2 mIxA (mVar 0) (mC (.int 0))) (mVar 1)) (mVar 0) (mC (.int 0)))
  (sRet (mVar 2))))
  sNil)
  (sSeq (sSetC (m2 mModI (m2 (mAdd finV) (m2 (mMul finV) (m2 mIxA (mVar 0) (mC (.int 1))) (mC (.int 69621))) (mC (.int 7))) (mC (.int 2147483647))) (mVar 0) (mC (.int 1)))
  (sRet (m2 mModI (m2 mDivI (m2 mModI (m2 (mMul finV) (m2 mIxA (mVar 0) (mC (.int 1))) (m2 mIxA (mVar 0) (mC (.int 1)))) (mC (.int 2147483629))) (mC (.int 32))) (mVar 1)))))
noncomputable def m_law_draw : List MV → MH → R MV := fnM 3 mb_law_draw
noncomputable def lb_law_made_0 : SM :=
  (sSeq (sSet 4 (mN mkTup (mCons (m2 mIxA (mN mkLv (mCons (mC (.str (Str.ofString "b"))) (mCons (mC (.str (Str.ofString "a"))) mNil))) (mN (cF 2 m_law_draw) (mCons (mVar 0) (mCons (mC (.int 2)) mNil)))) (mCons (m2 (mAdd finV) (mC (.int 8)) (mVar 2)) mNil))))
  (sSeq (sExpr (mMethC 0 (Str.ofString "share") (mVar 1) (mCons (mC (.str (Str.ofString "a"))) (mCons (mC (.int 0)) (mCons (m2 mIxA (mVar 4) (mC (.int 0))) (mCons (m2 mIxA (mVar 4) (mC (.int 1))) mNil)))) fun v as h => cN 5 m_Store_share (v :: (as ++ [])) h))
  (sExpr (mMeth mAppend (mVar 3) (mCons (mVar 4) mNil)))))
noncomputable def lb_law_made_1 : SM :=
  (sExpr (mMethC 0 (Str.ofString "give") (mVar 1) (mCons (mC (.str (Str.ofString "b"))) (mCons (m2 (mAdd finV) (mC (.int 20)) (mVar 2)) (mCons (mVar 2) mNil))) fun v as h => cN 5 m_Store_give (v :: (as ++ [.str (Str.ofString "write")])) h))
noncomputable def mb_law_made : SM :=
  (sSeq (sSet 1 (mN (mMake 0 2 m_Store___init__) (mCons (mC (.int 16)) mNil)))
  (sSeq (sExpr (mMethC 0 (Str.ofString "come") (mVar 1) (mCons (mC (.str (Str.ofString "a"))) mNil) fun v as h => cN 2 m_Store_come (v :: (as ++ [])) h))
  (sSeq (sExpr (mMethC 0 (Str.ofString "come") (mVar 1) (mCons (mC (.str (Str.ofString "b"))) mNil) fun v as h => cN 2 m_Store_come (v :: (as ++ [])) h))
  (sSeq (sFor (fun σ h => bindR ((mCons (mN (cF 2 m_law_draw) (mCons (mVar 0) (mCons (mC (.int 4)) mNil))) mNil) σ h) itR1) (gmName 2) lb_law_made_1)
  (sSeq (sExpr (mMethC 0 (Str.ofString "give") (mVar 1) (mCons (mC (.str (Str.ofString "a"))) (mCons (mC (.int 0)) (mCons (mC (.int 7)) mNil))) fun v as h => cN 5 m_Store_give (v :: (as ++ [.str (Str.ofString "write")])) h))
  (sSeq (sSet 3 (mN mkLst (mCons (mN mkTup (mCons (mC (.str (Str.ofString "a"))) (mCons (mC (.int 0)) mNil))) mNil)))
  (sSeq (sFor (fun σ h => bindR ((mCons (mN (cF 2 m_law_draw) (mCons (mVar 0) (mCons (mC (.int 4)) mNil))) mNil) σ h) itR1) (gmName 2) lb_law_made_0)
  (sRet (mN mkTup (mCons (mVar 1) (mCons (mN (mSrt finV) (mCons (mVar 3) mNil)) mNil)))))))))))
noncomputable def m_law_made : List MV → MH → R MV := fnM 5 mb_law_made
noncomputable def le_law_entries_0 : EM :=
  (m2 mIxA (mMethC 0 (Str.ofString "table") (mVar 0) (mCons (mVar 2) mNil) fun v as h => cF 2 m_Store_table (v :: (as ++ [])) h) (mVar 3))
noncomputable def mb_law_entries : SM :=
  (sRet (mLc (iL (mVar 1)) (.tp [.nm 2, .nm 3]) mYes le_law_entries_0 [2, 3] finR))
noncomputable def m_law_entries : List MV → MH → R MV := fnM 4 mb_law_entries
noncomputable def lt_law_begun_beside_0 : TM :=
  (mB (m2 mNeA (mVar 4) (mVar 1)))
noncomputable def le_law_begun_beside_0 : EM :=
  (mVar 4)
noncomputable def mb_law_begun_beside : SM :=
  (sSeq (sIf (mB (m2 mNotInC (mC (.int 20)) (mMethC 0 (Str.ofString "table") (mVar 0) (mCons (mC (.str (Str.ofString "b"))) mNil) fun v as h => cF 2 m_Store_table (v :: (as ++ [])) h)))
  (sRet (mN mkLv mNil))
  sNil)
  (sSeq (sSet 2 (m2 mIxA (m2 mIxA (mMethC 0 (Str.ofString "table") (mVar 0) (mCons (mC (.str (Str.ofString "b"))) mNil) fun v as h => cF 2 m_Store_table (v :: (as ++ [])) h) (mC (.int 20))) (mC (.int 1))))
  (sSeq (sSet 3 (m2 mIxA (mLc (iL (mMethC 0 (Str.ofString "free") (mVar 0) mNil fun v as h => cF 1 m_Store_free (v :: (as ++ [])) h)) (.nm 4) lt_law_begun_beside_0 le_law_begun_beside_0 [4] finV) (mC (.int 0))))
  (sSeq (sExpr (mMethC 0 (Str.ofString "begin") (mVar 0) (mCons (mVar 2) (mCons (mVar 3) mNil)) fun v as h => cN 3 m_Store_begin (v :: (as ++ [])) h))
  (sSeq (sExpr (mMethC 0 (Str.ofString "step") (mVar 0) (mCons (mVar 2) mNil) fun v as h => cN 2 m_Store_step (v :: (as ++ [])) h))
  (sRet (mN mkLv (mCons (mN mkTup (mCons (mVar 2) (mCons (mVar 3) (mCons (mC (.bl true)) (mCons (mC (.int 0)) mNil))))) mNil))))))))
noncomputable def m_law_begun_beside : List MV → MH → R MV := fnM 5 mb_law_begun_beside
noncomputable def lt_law_right_0 : TM :=
  (mB (m2 mNotInC (mVar 12) (mN mkLv (mCons (mVar 3) (mCons (mVar 5) mNil)))))
noncomputable def le_law_right_0 : EM :=
  (mMethC 0 (Str.ofString "what") (mVar 1) (mCons (mVar 12) mNil) fun v as h => cF 2 m_Store_what (v :: (as ++ [])) h)
noncomputable def le_law_right_1 : EM :=
  (mMethC 0 (Str.ofString "read") (mVar 1) (mCons (m2 mIxA (mVar 12) (mC (.int 0))) (mCons (m2 mIxA (mVar 12) (mC (.int 1))) mNil)) fun v as h => cF 3 m_Store_read (v :: (as ++ [])) h)
noncomputable def lb_law_right_0 : SM :=
  (sSeq (sSet 10 (mN mMax (mCons (mC (.int 0)) (mCons (m2 mSubI (mVar 9) (mC (.int 1))) mNil))))
  (sSeq (sIf (mOr (mB (m2 mNeB (mMethC 0 (Str.ofString "moves") (mVar 1) mNil fun v as h => cF 1 m_Store_moves (v :: (as ++ [])) h) (mN (mSrt finV) (mCons (m2 (mAdd finV) (mN mkLv (mCons (mN mkTup (mCons (mVar 3) (mCons (mVar 5) (mCons (m2 mGt (mVar 9) (mC (.int 0))) (mCons (mVar 10) mNil))))) mNil)) (mVar 6)) mNil)))) (mB (m2 mNeB (mMethC 0 (Str.ofString "what") (mVar 1) (mCons (mVar 5) mNil) fun v as h => cF 2 m_Store_what (v :: (as ++ [])) h) (mN mkTup (mCons (mC (.str (Str.ofString "held"))) (mCons (mVar 3) mNil))))))
  (sRet (mC (.bl false)))
  sNil)
  (sSeq (sIf (mOr (mB (m2 mNeB (mMethC 0 (Str.ofString "what") (mVar 1) (mCons (mVar 3) mNil) fun v as h => cF 2 m_Store_what (v :: (as ++ [])) h) (mN mkTup (mCons (mC (.str (Str.ofString "tenants"))) (mCons (mC (.int 7)) (mCons (m1 mTup1 (mVar 2)) mNil)))))) (mB (m2 mInC (mVar 5) (mMethC 0 (Str.ofString "free") (mVar 1) mNil fun v as h => cF 1 m_Store_free (v :: (as ++ [])) h))))
  (sRet (mC (.bl false)))
  sNil)
  (sSeq (sSet 11 (m2 (mAdd finV) (m2 (mMul finV) (mN mkLv (mCons (mN mkTup (mCons (mC (.str (Str.ofString "small"))) (mCons (mVar 5) (mCons (mC (.str (Str.ofString "write"))) mNil)))) mNil)) (mVar 10)) (m2 (mMul finV) (mN mkLv (mCons (mN mkTup (mCons (mC (.str (Str.ofString "moving"))) (mCons (mVar 3) (mCons (mC (.str (Str.ofString "write"))) mNil)))) mNil)) (m2 mSubI (mN mLenC (mCons (mVar 2) mNil)) (mVar 10)))))
  (sSeq (sIf (mOr (mB (m2 mNeB (mN (cF 2 m_law_entries) (mCons (mVar 1) (mCons (mVar 2) mNil))) (mVar 11))) (mB (m2 mNeB (mLc (iL (mVar 2)) (.nm 12) mYes le_law_right_1 [12] finV) (m2 (mMul finV) (mN mkLv (mCons (mC (.int 7)) mNil)) (mN mLenC (mCons (mVar 2) mNil))))))
  (sRet (mC (.bl false)))
  sNil)
  (sIf (mB (m2 mNeB (mMethC 0 (Str.ofString "step") (mVar 1) (mCons (mVar 3) mNil) fun v as h => cN 2 m_Store_step (v :: (as ++ [])) h) (m2 mIxA (mVar 8) (mVar 9))))
  (sRet (mC (.bl false)))
  sNil))))))
noncomputable def le_law_right_2 : EM :=
  (m2 (mAdd finV) (mN mkTup (mCons (mC (.str (Str.ofString "right"))) mNil)) (mVar 13))
noncomputable def mb_law_right : SM :=
  (sSeq (sAsg (mN (cN 1 m_law_made) (mCons (mVar 0) mNil)) (gmTup (gmCons (gmName 1) (gmCons (gmName 2) gmNil)) 2))
  (sSeq (sSet 3 (m2 mIxA (m2 mIxA (mMethC 0 (Str.ofString "table") (mVar 1) (mCons (mC (.str (Str.ofString "a"))) mNil) fun v as h => cF 2 m_Store_table (v :: (as ++ [])) h) (mC (.int 0))) (mC (.int 1))))
  (sSeq (sSet 4 (mMethC 0 (Str.ofString "free") (mVar 1) mNil fun v as h => cF 1 m_Store_free (v :: (as ++ [])) h))
  (sSeq (sSet 5 (m2 mIxA (mVar 4) (mN (cF 2 m_law_draw) (mCons (mVar 0) (mCons (mN mLenC (mCons (mVar 4) mNil)) mNil)))))
  (sSeq (sSet 6 (mN (cN 2 m_law_begun_beside) (mCons (mVar 1) (mCons (mVar 5) mNil))))
  (sSeq (sSet 7 (mLc (fun σ h => bindR ((mCons (mC (.int 16)) mNil) σ h) itR1) (.nm 12) lt_law_right_0 le_law_right_0 [12] finV))
  (sSeq (sExpr (mMethC 0 (Str.ofString "begin") (mVar 1) (mCons (mVar 3) (mCons (mVar 5) mNil)) fun v as h => cN 3 m_Store_begin (v :: (as ++ [])) h))
  (sSeq (sSet 8 (m2 (mAdd finV) (m2 (mAdd finV) (mN mkLv (mCons (mN mkTup (mCons (mC (.str (Str.ofString "copied"))) mNil)) mNil)) (mLc (iL (mVar 2)) (.nm 13) mYes le_law_right_2 [13] finV)) (mN mkLv (mCons (mN mkTup (mCons (mC (.str (Str.ofString "done"))) mNil)) mNil))))
  (sSeq (sFor (fun σ h => bindR ((mCons (mN mLenC (mCons (mVar 8) mNil)) mNil) σ h) itR1) (gmName 9) lb_law_right_0)
  (sSeq (sIf (mOr (mB (m2 mNeB (mMethC 0 (Str.ofString "moves") (mVar 1) mNil fun v as h => cF 1 m_Store_moves (v :: (as ++ [])) h) (mVar 6))) (mOr (mB (m2 mNeB (mMethC 0 (Str.ofString "what") (mVar 1) (mCons (mVar 3) mNil) fun v as h => cF 2 m_Store_what (v :: (as ++ [])) h) (mN mkTup (mCons (mC (.str (Str.ofString "free"))) mNil)))) (mB (m2 mNeB (mMethC 0 (Str.ofString "what") (mVar 1) (mCons (mVar 5) mNil) fun v as h => cF 2 m_Store_what (v :: (as ++ [])) h) (mN mkTup (mCons (mC (.str (Str.ofString "tenants"))) (mCons (mC (.int 7)) (mCons (m1 mTup1 (mVar 2)) mNil))))))))
  (sRet (mC (.bl false)))
  sNil)
  (sSeq (sIf (mB (m2 mNeB (mN (cF 2 m_law_entries) (mCons (mVar 1) (mCons (mVar 2) mNil))) (m2 (mMul finV) (mN mkLv (mCons (mN mkTup (mCons (mC (.str (Str.ofString "small"))) (mCons (mVar 5) (mCons (mC (.str (Str.ofString "write"))) mNil)))) mNil)) (mN mLenC (mCons (mVar 2) mNil)))))
  (sRet (mC (.bl false)))
  sNil)
  (sRet (m2 mEqB (mLc (fun σ h => bindR ((mCons (mC (.int 16)) mNil) σ h) itR1) (.nm 12) lt_law_right_0 le_law_right_0 [12] finV) (mVar 7))))))))))))))
noncomputable def m_law_right : List MV → MH → R MV := fnM 14 mb_law_right
noncomputable def lb_law_0 : SM :=
  (sIf (mNot (mTru (mN (cF 1 m_law_right) (mCons (mN (cR 2 m_law_pool) (mCons (mVar 0) (mCons (mVar 1) mNil))) mNil))))
  (sRet (mC (.bl false)))
  sNil)
noncomputable def mb_law : SM :=
  (sSeq (sFor (fun σ h => bindR ((mCons (mN mMax (mCons (mC (.int 1)) (mCons (mN mMin (mCons (mC (.int 10)) (mCons (mN mLenC (mCons (mVar 0) mNil)) mNil))) mNil))) mNil) σ h) itR1) (gmName 1) (sGc [1]
  lb_law_0))
  (sRet (mC (.bl true))))
noncomputable def m_law : List MV → MH → R MV := fnM 2 mb_law
end MP
namespace MP
open PySem PySem.Spec PyProof.Rows L2
noncomputable def topS (i : Nat) : Stmt := PySem.Challenge.pw_greatframes_k24_moves_step_by_step.main.body.getD i (.Pass ⟨0, 0, 0, 0⟩)
noncomputable def inS (s : Stmt) (j : Nat) : Stmt := match s with
  | .ClassDef (body := b) .. => b.getD j (.Pass ⟨0, 0, 0, 0⟩)
  | _ => .Pass ⟨0, 0, 0, 0⟩
noncomputable abbrev s_is_whole : Stmt := topS 19
abbrev N_is_whole : List Str := ["thing"]
theorem sc_is_whole : FnScope N_is_whole ["thing"] (defScope s_is_whole) := ⟨rfl, rfl, rfl, by decide +kernel, rfl, by decide +kernel, by decide +kernel⟩
noncomputable abbrev s_is_from : Stmt := topS 20
abbrev N_is_from : List Str := ["thing", "least", "most"]
theorem sc_is_from : FnScope N_is_from ["thing", "least", "most"] (defScope s_is_from) := ⟨rfl, rfl, rfl, by decide +kernel, rfl, by decide +kernel, by decide +kernel⟩
noncomputable abbrev s_is_size : Stmt := topS 21
abbrev N_is_size : List Str := ["thing"]
theorem sc_is_size : FnScope N_is_size ["thing"] (defScope s_is_size) := ⟨rfl, rfl, rfl, by decide +kernel, rfl, by decide +kernel, by decide +kernel⟩
noncomputable abbrev s_is_frame : Stmt := topS 22
abbrev N_is_frame : List Str := ["size", "thing"]
theorem sc_is_frame : FnScope N_is_frame ["size", "thing"] (defScope s_is_frame) := ⟨rfl, rfl, rfl, by decide +kernel, rfl, by decide +kernel, by decide +kernel⟩
noncomputable abbrev s_look_at_size : Stmt := topS 23
abbrev N_look_at_size : List Str := ["size"]
theorem sc_look_at_size : FnScope N_look_at_size ["size"] (defScope s_look_at_size) := ⟨rfl, rfl, rfl, by decide +kernel, rfl, by decide +kernel, by decide +kernel⟩
noncomputable abbrev s_is_rights : Stmt := topS 28
abbrev N_is_rights : List Str := ["thing"]
theorem sc_is_rights : FnScope N_is_rights ["thing"] (defScope s_is_rights) := ⟨rfl, rfl, rfl, by decide +kernel, rfl, by decide +kernel, by decide +kernel⟩
noncomputable abbrev s_is_word : Stmt := topS 36
abbrev N_is_word : List Str := ["thing", "sign"]
theorem sc_is_word : FnScope N_is_word ["thing"] (defScope s_is_word) := ⟨rfl, rfl, rfl, by decide +kernel, rfl, by decide +kernel, by decide +kernel⟩
noncomputable abbrev s_is_worth : Stmt := topS 37
abbrev N_is_worth : List Str := ["thing"]
theorem sc_is_worth : FnScope N_is_worth ["thing"] (defScope s_is_worth) := ⟨rfl, rfl, rfl, by decide +kernel, rfl, by decide +kernel, by decide +kernel⟩
noncomputable abbrev s_look_at_worth : Stmt := topS 38
abbrev N_look_at_worth : List Str := ["worth"]
theorem sc_look_at_worth : FnScope N_look_at_worth ["worth"] (defScope s_look_at_worth) := ⟨rfl, rfl, rfl, by decide +kernel, rfl, by decide +kernel, by decide +kernel⟩
noncomputable abbrev s_look_at_address : Stmt := topS 39
abbrev N_look_at_address : List Str := ["address"]
theorem sc_look_at_address : FnScope N_look_at_address ["address"] (defScope s_look_at_address) := ⟨rfl, rfl, rfl, by decide +kernel, rfl, by decide +kernel, by decide +kernel⟩
noncomputable abbrev s_look_at_rights : Stmt := topS 40
abbrev N_look_at_rights : List Str := ["rights"]
theorem sc_look_at_rights : FnScope N_look_at_rights ["rights"] (defScope s_look_at_rights) := ⟨rfl, rfl, rfl, by decide +kernel, rfl, by decide +kernel, by decide +kernel⟩
noncomputable abbrev s_for_tenant : Stmt := topS 42
abbrev N_for_tenant : List Str := ["free", "lots", "others", "frame"]
theorem sc_for_tenant : FnScope N_for_tenant ["free", "lots"] (defScope s_for_tenant) := ⟨rfl, rfl, rfl, by decide +kernel, rfl, by decide +kernel, by decide +kernel⟩
noncomputable abbrev s_Move___init__ : Stmt := inS (topS 45) 0
abbrev N_Move___init__ : List Str := ["self", "frame", "to"]
theorem sc_Move___init__ : FnScope N_Move___init__ ["self", "frame", "to"] (defScope s_Move___init__) := ⟨rfl, rfl, rfl, by decide +kernel, rfl, by decide +kernel, by decide +kernel⟩
noncomputable abbrev s_Move_told : Stmt := inS (topS 45) 1
abbrev N_Move_told : List Str := ["self"]
theorem sc_Move_told : FnScope N_Move_told ["self"] (defScope s_Move_told) := ⟨rfl, rfl, rfl, by decide +kernel, rfl, by decide +kernel, by decide +kernel⟩
noncomputable abbrev s_Store___init__ : Stmt := inS (topS 47) 0
abbrev N_Store___init__ : List Str := ["self", "size"]
theorem sc_Store___init__ : FnScope N_Store___init__ ["self", "size"] (defScope s_Store___init__) := ⟨rfl, rfl, rfl, by decide +kernel, rfl, by decide +kernel, by decide +kernel⟩
noncomputable abbrev s_Store_held_for : Stmt := inS (topS 47) 4
abbrev N_Store_held_for : List Str := ["self", "frame", "move"]
theorem sc_Store_held_for : FnScope N_Store_held_for ["self", "frame"] (defScope s_Store_held_for) := ⟨rfl, rfl, rfl, by decide +kernel, rfl, by decide +kernel, by decide +kernel⟩
noncomputable abbrev s_Store_what : Stmt := inS (topS 47) 5
abbrev N_Store_what : List Str := ["self", "frame"]
theorem sc_Store_what : FnScope N_Store_what ["self", "frame"] (defScope s_Store_what) := ⟨rfl, rfl, rfl, by decide +kernel, rfl, by decide +kernel, by decide +kernel⟩
noncomputable abbrev s_Store_table_of : Stmt := inS (topS 47) 8
abbrev N_Store_table_of : List Str := ["self", "word"]
theorem sc_Store_table_of : FnScope N_Store_table_of ["self", "word"] (defScope s_Store_table_of) := ⟨rfl, rfl, rfl, by decide +kernel, rfl, by decide +kernel, by decide +kernel⟩
noncomputable abbrev s_Store_table : Stmt := inS (topS 47) 9
abbrev N_Store_table : List Str := ["self", "word", "found", "address", "frame", "rights", "is_great", "move"]
theorem sc_Store_table : FnScope N_Store_table ["self", "word"] (defScope s_Store_table) := ⟨rfl, rfl, rfl, by decide +kernel, rfl, by decide +kernel, by decide +kernel⟩
noncomputable abbrev s_Store_free : Stmt := inS (topS 47) 10
abbrev N_Store_free : List Str := ["self", "frame"]
theorem sc_Store_free : FnScope N_Store_free ["self"] (defScope s_Store_free) := ⟨rfl, rfl, rfl, by decide +kernel, rfl, by decide +kernel, by decide +kernel⟩
noncomputable abbrev s_Store_lots_of_house : Stmt := inS (topS 47) 12
abbrev N_Store_lots_of_house : List Str := ["self", "frame"]
theorem sc_Store_lots_of_house : FnScope N_Store_lots_of_house ["self"] (defScope s_Store_lots_of_house) := ⟨rfl, rfl, rfl, by decide +kernel, rfl, by decide +kernel, by decide +kernel⟩
noncomputable abbrev s_Store_free_one : Stmt := inS (topS 47) 13
abbrev N_Store_free_one : List Str := ["self", "kept", "some"]
theorem sc_Store_free_one : FnScope N_Store_free_one ["self", "kept"] (defScope s_Store_free_one) := ⟨rfl, rfl, rfl, by decide +kernel, rfl, by decide +kernel, by decide +kernel⟩
noncomputable abbrev s_Store_frame_for_tenant : Stmt := inS (topS 47) 14
abbrev N_Store_frame_for_tenant : List Str := ["self", "kept"]
theorem sc_Store_frame_for_tenant : FnScope N_Store_frame_for_tenant ["self", "kept"] (defScope s_Store_frame_for_tenant) := ⟨rfl, rfl, rfl, by decide +kernel, rfl, by decide +kernel, by decide +kernel⟩
noncomputable abbrev s_Store_come : Stmt := inS (topS 47) 16
abbrev N_Store_come : List Str := ["self", "word"]
theorem sc_Store_come : FnScope N_Store_come ["self", "word"] (defScope s_Store_come) := ⟨rfl, rfl, rfl, by decide +kernel, rfl, by decide +kernel, by decide +kernel⟩
noncomputable abbrev s_Store_entry_at : Stmt := inS (topS 47) 18
abbrev N_Store_entry_at : List Str := ["self", "word", "address", "table"]
theorem sc_Store_entry_at : FnScope N_Store_entry_at ["self", "word", "address"] (defScope s_Store_entry_at) := ⟨rfl, rfl, rfl, by decide +kernel, rfl, by decide +kernel, by decide +kernel⟩
noncomputable abbrev s_Store_tie : Stmt := inS (topS 47) 19
abbrev N_Store_tie : List Str := ["self", "word", "address", "frame", "rights"]
theorem sc_Store_tie : FnScope N_Store_tie ["self", "word", "address", "frame", "rights"] (defScope s_Store_tie) := ⟨rfl, rfl, rfl, by decide +kernel, rfl, by decide +kernel, by decide +kernel⟩
noncomputable abbrev s_Store_lay_frame : Stmt := inS (topS 47) 20
abbrev N_Store_lay_frame : List Str := ["self", "word", "address", "worth", "rights", "frame"]
theorem sc_Store_lay_frame : FnScope N_Store_lay_frame ["self", "word", "address", "worth", "rights"] (defScope s_Store_lay_frame) := ⟨rfl, rfl, rfl, by decide +kernel, rfl, by decide +kernel, by decide +kernel⟩
noncomputable abbrev s_Store_give : Stmt := inS (topS 47) 21
abbrev N_Store_give : List Str := ["self", "word", "address", "worth", "rights", "table"]
theorem sc_Store_give : FnScope N_Store_give ["self", "word", "address", "worth", "rights"] (defScope s_Store_give) := ⟨rfl, rfl, rfl, by decide +kernel, rfl, by decide +kernel, by decide +kernel⟩
noncomputable abbrev s_Store_read : Stmt := inS (topS 47) 25
abbrev N_Store_read : List Str := ["self", "word", "address"]
theorem sc_Store_read : FnScope N_Store_read ["self", "word", "address"] (defScope s_Store_read) := ⟨rfl, rfl, rfl, by decide +kernel, rfl, by decide +kernel, by decide +kernel⟩
noncomputable abbrev s_Store_part_at : Stmt := inS (topS 47) 47
abbrev N_Store_part_at : List Str := ["self", "word", "address", "table", "first", "place"]
theorem sc_Store_part_at : FnScope N_Store_part_at ["self", "word", "address"] (defScope s_Store_part_at) := ⟨rfl, rfl, rfl, by decide +kernel, rfl, by decide +kernel, by decide +kernel⟩
noncomputable abbrev s_Store_share : Stmt := inS (topS 47) 27
abbrev N_Store_share : List Str := ["self", "word", "address", "other", "place", "frame", "rights", "is_great", "table", "move"]
theorem sc_Store_share : FnScope N_Store_share ["self", "word", "address", "other", "place"] (defScope s_Store_share) := ⟨rfl, rfl, rfl, by decide +kernel, rfl, by decide +kernel, by decide +kernel⟩
noncomputable abbrev s_Store_begin : Stmt := inS (topS 47) 36
abbrev N_Store_begin : List Str := ["self", "frame", "to", "word", "address"]
theorem sc_Store_begin : FnScope N_Store_begin ["self", "frame", "to"] (defScope s_Store_begin) := ⟨rfl, rfl, rfl, by decide +kernel, rfl, by decide +kernel, by decide +kernel⟩
noncomputable abbrev s_Store_move_of : Stmt := inS (topS 47) 37
abbrev N_Store_move_of : List Str := ["self", "frame"]
theorem sc_Store_move_of : FnScope N_Store_move_of ["self", "frame"] (defScope s_Store_move_of) := ⟨rfl, rfl, rfl, by decide +kernel, rfl, by decide +kernel, by decide +kernel⟩
noncomputable abbrev s_Store_finish : Stmt := inS (topS 47) 39
abbrev N_Store_finish : List Str := ["self", "move", "frame", "to", "word", "address", "elder", "rights", "is_great"]
theorem sc_Store_finish : FnScope N_Store_finish ["self", "move"] (defScope s_Store_finish) := ⟨rfl, rfl, rfl, by decide +kernel, rfl, by decide +kernel, by decide +kernel⟩
noncomputable abbrev s_Store_step : Stmt := inS (topS 47) 38
abbrev N_Store_step : List Str := ["self", "frame", "move", "some", "spot"]
theorem sc_Store_step : FnScope N_Store_step ["self", "frame"] (defScope s_Store_step) := ⟨rfl, rfl, rfl, by decide +kernel, rfl, by decide +kernel, by decide +kernel⟩
noncomputable abbrev s_Store_moves : Stmt := inS (topS 47) 42
abbrev N_Store_moves : List Str := ["self", "move"]
theorem sc_Store_moves : FnScope N_Store_moves ["self"] (defScope s_Store_moves) := ⟨rfl, rfl, rfl, by decide +kernel, rfl, by decide +kernel, by decide +kernel⟩
noncomputable abbrev s_law_pool : Stmt := topS 49
abbrev N_law_pool : List Str := ["_law_script", "_law_k", "_law_cell", "_law_size", "_law_mixed"]
theorem sc_law_pool : FnScope N_law_pool ["_law_script", "_law_k"] (defScope s_law_pool) := ⟨rfl, rfl, rfl, by decide +kernel, rfl, by decide +kernel, by decide +kernel⟩
noncomputable abbrev s_law_draw : Stmt := topS 50
abbrev N_law_draw : List Str := ["_law_pool_here", "_law_many", "_law_found"]
theorem sc_law_draw : FnScope N_law_draw ["_law_pool_here", "_law_many"] (defScope s_law_draw) := ⟨rfl, rfl, rfl, by decide +kernel, rfl, by decide +kernel, by decide +kernel⟩
noncomputable abbrev s_law_made : Stmt := topS 51
abbrev N_law_made : List Str := ["_law_pool_here", "_law_store", "_law_turn", "_law_spots", "_law_spot"]
theorem sc_law_made : FnScope N_law_made ["_law_pool_here"] (defScope s_law_made) := ⟨rfl, rfl, rfl, by decide +kernel, rfl, by decide +kernel, by decide +kernel⟩
noncomputable abbrev s_law_entries : Stmt := topS 52
abbrev N_law_entries : List Str := ["_law_store", "_law_spots", "_law_word", "_law_address"]
theorem sc_law_entries : FnScope N_law_entries ["_law_store", "_law_spots"] (defScope s_law_entries) := ⟨rfl, rfl, rfl, by decide +kernel, rfl, by decide +kernel, by decide +kernel⟩
noncomputable abbrev s_law_begun_beside : Stmt := topS 53
abbrev N_law_begun_beside : List Str := ["_law_store", "_law_to", "_law_other", "_law_there", "_law_one"]
theorem sc_law_begun_beside : FnScope N_law_begun_beside ["_law_store", "_law_to"] (defScope s_law_begun_beside) := ⟨rfl, rfl, rfl, by decide +kernel, rfl, by decide +kernel, by decide +kernel⟩
noncomputable abbrev s_law_right : Stmt := topS 54
abbrev N_law_right : List Str := ["_law_pool_here", "_law_store", "_law_spots", "_law_frame", "_law_free", "_law_to", "_law_rest", "_law_beside", "_law_due", "_law_at", "_law_right_here", "_law_rows", "_law_one", "_law_spot"]
theorem sc_law_right : FnScope N_law_right ["_law_pool_here"] (defScope s_law_right) := ⟨rfl, rfl, rfl, by decide +kernel, rfl, by decide +kernel, by decide +kernel⟩
noncomputable abbrev s_law : Stmt := topS 55
abbrev N_law : List Str := ["_law_script", "_law_k"]
theorem sc_law : FnScope N_law ["_law_script"] (defScope s_law) := ⟨rfl, rfl, rfl, by decide +kernel, rfl, by decide +kernel, by decide +kernel⟩
set_option genInjectivity false in
set_option genSizeOf false in
structure Tx (P : Program) (w : World) (K : PySem.W.Frag) (mg : Str → Option Value) (base : Heap) (ca : Nat → Addr) where
  unit : True
  z_all : mg "all" = none
  z_bool : mg "bool" = none
  z_int : mg "int" = none
  z_isinstance : mg "isinstance" = none
  z_len : mg "len" = none
  z_max : mg "max" = none
  z_min : mg "min" = none
  z_range : mg "range" = none
  z_sorted : mg "sorted" = none
  z_str : mg "str" = none
  z_tuple : mg "tuple" = none
  w_LONGEST : V
  v_LONGEST : ∃ u, mg "LONGEST" = some u ∧ RelV w_LONGEST u
  r_LONGEST : ∀ ι β H, RepV (C.mk K ca none).K ι β H (.int 8) w_LONGEST
  w_LOT : V
  v_LOT : ∃ u, mg "LOT" = some u ∧ RelV w_LOT u
  r_LOT : ∀ ι β H, RepV (C.mk K ca none).K ι β H (.int 8) w_LOT
  w_MOST_ADDRESS : V
  v_MOST_ADDRESS : ∃ u, mg "MOST_ADDRESS" = some u ∧ RelV w_MOST_ADDRESS u
  r_MOST_ADDRESS : ∀ ι β H, RepV (C.mk K ca none).K ι β H (.int 31) w_MOST_ADDRESS
  w_MOST_SIZE : V
  v_MOST_SIZE : ∃ u, mg "MOST_SIZE" = some u ∧ RelV w_MOST_SIZE u
  r_MOST_SIZE : ∀ ι β H, RepV (C.mk K ca none).K ι β H (.int 64) w_MOST_SIZE
  w_MOST_WORTH : V
  v_MOST_WORTH : ∃ u, mg "MOST_WORTH" = some u ∧ RelV w_MOST_WORTH u
  r_MOST_WORTH : ∀ ι β H, RepV (C.mk K ca none).K ι β H (.int (1000000000)) w_MOST_WORTH
  w_NO_WORDS : V
  v_NO_WORDS : ∃ u, mg "NO_WORDS" = some u ∧ RelV w_NO_WORDS u
  r_NO_WORDS : ∀ ι β H, RepV (C.mk K ca none).K ι β H (.tup [.str (Str.ofString "house"), .str (Str.ofString "kept")]) w_NO_WORDS
  w_RIGHTS : V
  v_RIGHTS : ∃ u, mg "RIGHTS" = some u ∧ RelV w_RIGHTS u
  r_RIGHTS : ∀ ι β H, RepV (C.mk K ca none).K ι β H (.tup [.str (Str.ofString "read"), .str (Str.ofString "write")]) w_RIGHTS
  w_SIGNS : V
  v_SIGNS : ∃ u, mg "SIGNS" = some u ∧ RelV w_SIGNS u
  r_SIGNS : ∀ ι β H, RepV (C.mk K ca none).K ι β H (.str (Str.ofString "abcdefghijklmnopqrstuvwxyz")) w_SIGNS
  w_STRETCH : V
  v_STRETCH : ∃ u, mg "STRETCH" = some u ∧ RelV w_STRETCH u
  r_STRETCH : ∀ ι β H, RepV (C.mk K ca none).K ι β H (.int 4) w_STRETCH
  gC_Store : mg "Store" = some (.ref (ca 0))
  cls_Store : Cls K (ca 0)
  gC_Move : mg "Move" = some (.ref (ca 1))
  cls_Move : Cls K (ca 1)
  na_Move_frame_from : NoAttr K (ca 1) (Str.ofString "frame_from")
  na_Move_frame_to : NoAttr K (ca 1) (Str.ofString "frame_to")
  na_Move_has_copied : NoAttr K (ca 1) (Str.ofString "has_copied")
  na_Store_house_frames : NoAttr K (ca 0) (Str.ofString "house_frames")
  na_Store_kept_worths : NoAttr K (ca 0) (Str.ofString "kept_worths")
  na_Store_own_moves : NoAttr K (ca 0) (Str.ofString "own_moves")
  na_Store_own_pins : NoAttr K (ca 0) (Str.ofString "own_pins")
  na_Store_own_size : NoAttr K (ca 0) (Str.ofString "own_size")
  na_Move_right_ones : NoAttr K (ca 1) (Str.ofString "right_ones")
  na_Store_spots : NoAttr K (ca 0) (Str.ofString "spots")
  na_Store_tables : NoAttr K (ca 0) (Str.ofString "tables")
  na_Store_worths : NoAttr K (ca 0) (Str.ofString "worths")
  f_is_whole : Addr
  d_is_whole : FuncData
  F_is_whole : Fun K "is_whole" "is_whole" s_is_whole f_is_whole d_is_whole
  g_is_whole : mg "is_whole" = some (.ref f_is_whole)
  f_is_from : Addr
  d_is_from : FuncData
  F_is_from : Fun K "is_from" "is_from" s_is_from f_is_from d_is_from
  g_is_from : mg "is_from" = some (.ref f_is_from)
  f_is_size : Addr
  d_is_size : FuncData
  F_is_size : Fun K "is_size" "is_size" s_is_size f_is_size d_is_size
  g_is_size : mg "is_size" = some (.ref f_is_size)
  f_is_frame : Addr
  d_is_frame : FuncData
  F_is_frame : Fun K "is_frame" "is_frame" s_is_frame f_is_frame d_is_frame
  g_is_frame : mg "is_frame" = some (.ref f_is_frame)
  f_look_at_size : Addr
  d_look_at_size : FuncData
  F_look_at_size : Fun K "look_at_size" "look_at_size" s_look_at_size f_look_at_size d_look_at_size
  g_look_at_size : mg "look_at_size" = some (.ref f_look_at_size)
  f_is_rights : Addr
  d_is_rights : FuncData
  F_is_rights : Fun K "is_rights" "is_rights" s_is_rights f_is_rights d_is_rights
  g_is_rights : mg "is_rights" = some (.ref f_is_rights)
  f_is_word : Addr
  d_is_word : FuncData
  F_is_word : Fun K "is_word" "is_word" s_is_word f_is_word d_is_word
  g_is_word : mg "is_word" = some (.ref f_is_word)
  f_is_worth : Addr
  d_is_worth : FuncData
  F_is_worth : Fun K "is_worth" "is_worth" s_is_worth f_is_worth d_is_worth
  g_is_worth : mg "is_worth" = some (.ref f_is_worth)
  f_look_at_worth : Addr
  d_look_at_worth : FuncData
  F_look_at_worth : Fun K "look_at_worth" "look_at_worth" s_look_at_worth f_look_at_worth d_look_at_worth
  g_look_at_worth : mg "look_at_worth" = some (.ref f_look_at_worth)
  f_look_at_address : Addr
  d_look_at_address : FuncData
  F_look_at_address : Fun K "look_at_address" "look_at_address" s_look_at_address f_look_at_address d_look_at_address
  g_look_at_address : mg "look_at_address" = some (.ref f_look_at_address)
  f_look_at_rights : Addr
  d_look_at_rights : FuncData
  F_look_at_rights : Fun K "look_at_rights" "look_at_rights" s_look_at_rights f_look_at_rights d_look_at_rights
  g_look_at_rights : mg "look_at_rights" = some (.ref f_look_at_rights)
  f_for_tenant : Addr
  d_for_tenant : FuncData
  F_for_tenant : Fun K "for_tenant" "for_tenant" s_for_tenant f_for_tenant d_for_tenant
  g_for_tenant : mg "for_tenant" = some (.ref f_for_tenant)
  f_Move___init__ : Addr
  d_Move___init__ : FuncData
  F_Move___init__ : Fun K "__init__" "Move.__init__" s_Move___init__ f_Move___init__ d_Move___init__
  Mk_Move : Mk K (ca 1) f_Move___init__
  f_Move_told : Addr
  d_Move_told : FuncData
  F_Move_told : Fun K "told" "Move.told" s_Move_told f_Move_told d_Move_told
  M_Move_told : Meth K (ca 1) (Str.ofString "told") f_Move_told
  f_Store___init__ : Addr
  d_Store___init__ : FuncData
  F_Store___init__ : Fun K "__init__" "Store.__init__" s_Store___init__ f_Store___init__ d_Store___init__
  Mk_Store : Mk K (ca 0) f_Store___init__
  f_Store_held_for : Addr
  d_Store_held_for : FuncData
  F_Store_held_for : Fun K "held_for" "Store.held_for" s_Store_held_for f_Store_held_for d_Store_held_for
  M_Store_held_for : Meth K (ca 0) (Str.ofString "held_for") f_Store_held_for
  f_Store_what : Addr
  d_Store_what : FuncData
  F_Store_what : Fun K "what" "Store.what" s_Store_what f_Store_what d_Store_what
  M_Store_what : Meth K (ca 0) (Str.ofString "what") f_Store_what
  f_Store_table_of : Addr
  d_Store_table_of : FuncData
  F_Store_table_of : Fun K "table_of" "Store.table_of" s_Store_table_of f_Store_table_of d_Store_table_of
  M_Store_table_of : Meth K (ca 0) (Str.ofString "table_of") f_Store_table_of
  f_Store_table : Addr
  d_Store_table : FuncData
  F_Store_table : Fun K "table" "Store.table" s_Store_table f_Store_table d_Store_table
  M_Store_table : Meth K (ca 0) (Str.ofString "table") f_Store_table
  f_Store_free : Addr
  d_Store_free : FuncData
  F_Store_free : Fun K "free" "Store.free" s_Store_free f_Store_free d_Store_free
  M_Store_free : Meth K (ca 0) (Str.ofString "free") f_Store_free
  f_Store_lots_of_house : Addr
  d_Store_lots_of_house : FuncData
  F_Store_lots_of_house : Fun K "lots_of_house" "Store.lots_of_house" s_Store_lots_of_house f_Store_lots_of_house d_Store_lots_of_house
  M_Store_lots_of_house : Meth K (ca 0) (Str.ofString "lots_of_house") f_Store_lots_of_house
  f_Store_free_one : Addr
  d_Store_free_one : FuncData
  FD_Store_free_one : FunD K "free_one" "Store.free_one" (defArgs s_Store_free_one) (defBody s_Store_free_one) (defScope s_Store_free_one) [] [("kept", .bl true)] f_Store_free_one d_Store_free_one
  M_Store_free_one : Meth K (ca 0) (Str.ofString "free_one") f_Store_free_one
  f_Store_frame_for_tenant : Addr
  d_Store_frame_for_tenant : FuncData
  FD_Store_frame_for_tenant : FunD K "frame_for_tenant" "Store.frame_for_tenant" (defArgs s_Store_frame_for_tenant) (defBody s_Store_frame_for_tenant) (defScope s_Store_frame_for_tenant) [] [("kept", .bl true)] f_Store_frame_for_tenant d_Store_frame_for_tenant
  M_Store_frame_for_tenant : Meth K (ca 0) (Str.ofString "frame_for_tenant") f_Store_frame_for_tenant
  f_Store_come : Addr
  d_Store_come : FuncData
  F_Store_come : Fun K "come" "Store.come" s_Store_come f_Store_come d_Store_come
  M_Store_come : Meth K (ca 0) (Str.ofString "come") f_Store_come
  f_Store_entry_at : Addr
  d_Store_entry_at : FuncData
  F_Store_entry_at : Fun K "entry_at" "Store.entry_at" s_Store_entry_at f_Store_entry_at d_Store_entry_at
  M_Store_entry_at : Meth K (ca 0) (Str.ofString "entry_at") f_Store_entry_at
  f_Store_tie : Addr
  d_Store_tie : FuncData
  F_Store_tie : Fun K "tie" "Store.tie" s_Store_tie f_Store_tie d_Store_tie
  M_Store_tie : Meth K (ca 0) (Str.ofString "tie") f_Store_tie
  f_Store_lay_frame : Addr
  d_Store_lay_frame : FuncData
  F_Store_lay_frame : Fun K "lay_frame" "Store.lay_frame" s_Store_lay_frame f_Store_lay_frame d_Store_lay_frame
  M_Store_lay_frame : Meth K (ca 0) (Str.ofString "lay_frame") f_Store_lay_frame
  f_Store_give : Addr
  d_Store_give : FuncData
  FD_Store_give : FunD K "give" "Store.give" (defArgs s_Store_give) (defBody s_Store_give) (defScope s_Store_give) [] [("rights", .str (Str.ofString "write"))] f_Store_give d_Store_give
  M_Store_give : Meth K (ca 0) (Str.ofString "give") f_Store_give
  f_Store_read : Addr
  d_Store_read : FuncData
  F_Store_read : Fun K "read" "Store.read" s_Store_read f_Store_read d_Store_read
  M_Store_read : Meth K (ca 0) (Str.ofString "read") f_Store_read
  f_Store_part_at : Addr
  d_Store_part_at : FuncData
  F_Store_part_at : Fun K "part_at" "Store.part_at" s_Store_part_at f_Store_part_at d_Store_part_at
  M_Store_part_at : Meth K (ca 0) (Str.ofString "part_at") f_Store_part_at
  f_Store_share : Addr
  d_Store_share : FuncData
  F_Store_share : Fun K "share" "Store.share" s_Store_share f_Store_share d_Store_share
  M_Store_share : Meth K (ca 0) (Str.ofString "share") f_Store_share
  f_Store_begin : Addr
  d_Store_begin : FuncData
  F_Store_begin : Fun K "begin" "Store.begin" s_Store_begin f_Store_begin d_Store_begin
  M_Store_begin : Meth K (ca 0) (Str.ofString "begin") f_Store_begin
  f_Store_move_of : Addr
  d_Store_move_of : FuncData
  F_Store_move_of : Fun K "move_of" "Store.move_of" s_Store_move_of f_Store_move_of d_Store_move_of
  M_Store_move_of : Meth K (ca 0) (Str.ofString "move_of") f_Store_move_of
  f_Store_finish : Addr
  d_Store_finish : FuncData
  F_Store_finish : Fun K "finish" "Store.finish" s_Store_finish f_Store_finish d_Store_finish
  M_Store_finish : Meth K (ca 0) (Str.ofString "finish") f_Store_finish
  f_Store_step : Addr
  d_Store_step : FuncData
  F_Store_step : Fun K "step" "Store.step" s_Store_step f_Store_step d_Store_step
  M_Store_step : Meth K (ca 0) (Str.ofString "step") f_Store_step
  f_Store_moves : Addr
  d_Store_moves : FuncData
  F_Store_moves : Fun K "moves" "Store.moves" s_Store_moves f_Store_moves d_Store_moves
  M_Store_moves : Meth K (ca 0) (Str.ofString "moves") f_Store_moves
  f_law_pool : Addr
  d_law_pool : FuncData
  F_law_pool : Fun K "_law_pool" "_law_pool" s_law_pool f_law_pool d_law_pool
  g_law_pool : mg "_law_pool" = some (.ref f_law_pool)
  f_law_draw : Addr
  d_law_draw : FuncData
  F_law_draw : Fun K "_law_draw" "_law_draw" s_law_draw f_law_draw d_law_draw
  g_law_draw : mg "_law_draw" = some (.ref f_law_draw)
  f_law_made : Addr
  d_law_made : FuncData
  F_law_made : Fun K "_law_made" "_law_made" s_law_made f_law_made d_law_made
  g_law_made : mg "_law_made" = some (.ref f_law_made)
  f_law_entries : Addr
  d_law_entries : FuncData
  F_law_entries : Fun K "_law_entries" "_law_entries" s_law_entries f_law_entries d_law_entries
  g_law_entries : mg "_law_entries" = some (.ref f_law_entries)
  f_law_begun_beside : Addr
  d_law_begun_beside : FuncData
  F_law_begun_beside : Fun K "_law_begun_beside" "_law_begun_beside" s_law_begun_beside f_law_begun_beside d_law_begun_beside
  g_law_begun_beside : mg "_law_begun_beside" = some (.ref f_law_begun_beside)
  f_law_right : Addr
  d_law_right : FuncData
  F_law_right : Fun K "_law_right" "_law_right" s_law_right f_law_right d_law_right
  g_law_right : mg "_law_right" = some (.ref f_law_right)
  f_law : Addr
  d_law : FuncData
  F_law : Fun K "law" "law" s_law f_law d_law
  g_law : mg "law" = some (.ref f_law)
section
variable {P : Program} {w : World} {K : PySem.W.Frag} {mg : Str → Option Value} {base : Heap} {ca : Nat → Addr}
theorem Tx.fa_frame_from (T : Tx P w K mg base ca) : FldAt K ca [1] (Str.ofString "frame_from") := fun n hn => by
  simp only [List.mem_cons, List.mem_nil_iff, or_false] at hn
  rcases hn with rfl
  · exact ⟨T.cls_Move, T.na_Move_frame_from⟩
theorem Tx.fa_frame_to (T : Tx P w K mg base ca) : FldAt K ca [1] (Str.ofString "frame_to") := fun n hn => by
  simp only [List.mem_cons, List.mem_nil_iff, or_false] at hn
  rcases hn with rfl
  · exact ⟨T.cls_Move, T.na_Move_frame_to⟩
theorem Tx.fa_has_copied (T : Tx P w K mg base ca) : FldAt K ca [1] (Str.ofString "has_copied") := fun n hn => by
  simp only [List.mem_cons, List.mem_nil_iff, or_false] at hn
  rcases hn with rfl
  · exact ⟨T.cls_Move, T.na_Move_has_copied⟩
theorem Tx.fa_house_frames (T : Tx P w K mg base ca) : FldAt K ca [0] (Str.ofString "house_frames") := fun n hn => by
  simp only [List.mem_cons, List.mem_nil_iff, or_false] at hn
  rcases hn with rfl
  · exact ⟨T.cls_Store, T.na_Store_house_frames⟩
theorem Tx.fa_kept_worths (T : Tx P w K mg base ca) : FldAt K ca [0] (Str.ofString "kept_worths") := fun n hn => by
  simp only [List.mem_cons, List.mem_nil_iff, or_false] at hn
  rcases hn with rfl
  · exact ⟨T.cls_Store, T.na_Store_kept_worths⟩
theorem Tx.fa_own_moves (T : Tx P w K mg base ca) : FldAt K ca [0] (Str.ofString "own_moves") := fun n hn => by
  simp only [List.mem_cons, List.mem_nil_iff, or_false] at hn
  rcases hn with rfl
  · exact ⟨T.cls_Store, T.na_Store_own_moves⟩
theorem Tx.fa_own_pins (T : Tx P w K mg base ca) : FldAt K ca [0] (Str.ofString "own_pins") := fun n hn => by
  simp only [List.mem_cons, List.mem_nil_iff, or_false] at hn
  rcases hn with rfl
  · exact ⟨T.cls_Store, T.na_Store_own_pins⟩
theorem Tx.fa_own_size (T : Tx P w K mg base ca) : FldAt K ca [0] (Str.ofString "own_size") := fun n hn => by
  simp only [List.mem_cons, List.mem_nil_iff, or_false] at hn
  rcases hn with rfl
  · exact ⟨T.cls_Store, T.na_Store_own_size⟩
theorem Tx.fa_right_ones (T : Tx P w K mg base ca) : FldAt K ca [1] (Str.ofString "right_ones") := fun n hn => by
  simp only [List.mem_cons, List.mem_nil_iff, or_false] at hn
  rcases hn with rfl
  · exact ⟨T.cls_Move, T.na_Move_right_ones⟩
theorem Tx.fa_spots (T : Tx P w K mg base ca) : FldAt K ca [0] (Str.ofString "spots") := fun n hn => by
  simp only [List.mem_cons, List.mem_nil_iff, or_false] at hn
  rcases hn with rfl
  · exact ⟨T.cls_Store, T.na_Store_spots⟩
theorem Tx.fa_tables (T : Tx P w K mg base ca) : FldAt K ca [0] (Str.ofString "tables") := fun n hn => by
  simp only [List.mem_cons, List.mem_nil_iff, or_false] at hn
  rcases hn with rfl
  · exact ⟨T.cls_Store, T.na_Store_tables⟩
theorem Tx.fa_worths (T : Tx P w K mg base ca) : FldAt K ca [0] (Str.ofString "worths") := fun n hn => by
  simp only [List.mem_cons, List.mem_nil_iff, or_false] at hn
  rcases hn with rfl
  · exact ⟨T.cls_Store, T.na_Store_worths⟩
theorem Tx.k_is_whole (T : Tx P w K mg base ca) : PySem.W.keepIn K (.ref T.f_is_whole) = true := T.F_is_whole.kp
theorem Tx.b_is_whole (T : Tx P w K mg base ca) : Binds K T.d_is_whole ["thing"] [] := T.F_is_whole.binds fun _ _ _ _ _ _ us hl => match us, hl with | [_], _ => rfl
theorem Tx.ok_is_whole (T : Tx P w K mg base ca) : FnG P w K mg base (L2N.CX P w) 1 T.f_is_whole T.d_is_whole ["thing"] (spM (C.mk K ca none) 1 m_is_whole) := by
  refine fn_okM (c := C.mk K ca none) T.F_is_whole sc_is_whole fun cdv A outer s H E hr => ?_
  have tk := L2N.takes_of (X := cxOf (L2N.CX P w) P w K mg base N_is_whole "is_whole" (defScope s_is_whole) T.f_is_whole cdv A outer s H E) rfl rfl rfl rfl
  exact (ss_one (s_ret (e_and (e_isi .int rfl (by rfl) T.z_isinstance (by rfl) T.z_int (by decide +kernel) boot_isinstance (e_var 0 (pv 0))) (e_one (e_not (e_isi .bl rfl (by rfl) T.z_isinstance (by rfl) T.z_bool (by decide +kernel) boot_isinstance (e_var 0 (pv 0))))))))
theorem Tx.k_is_from (T : Tx P w K mg base ca) : PySem.W.keepIn K (.ref T.f_is_from) = true := T.F_is_from.kp
theorem Tx.b_is_from (T : Tx P w K mg base ca) : Binds K T.d_is_from ["thing", "least", "most"] [] := T.F_is_from.binds fun _ _ _ _ _ _ us hl => match us, hl with | [_, _, _], _ => rfl
theorem Tx.ok_is_from (T : Tx P w K mg base ca) : FnG P w K mg base (L2N.CX P w) 2 T.f_is_from T.d_is_from ["thing", "least", "most"] (spM (C.mk K ca none) 3 m_is_from) := by
  refine fn_okM (c := C.mk K ca none) T.F_is_from sc_is_from fun cdv A outer s H E hr => ?_
  have tk := L2N.takes_of (X := cxOf (L2N.CX P w) P w K mg base N_is_from "is_from" (defScope s_is_from) T.f_is_from cdv A outer s H E) rfl rfl rfl rfl
  exact (ss_one (s_ret (e_and (e_call way_F T.ok_is_whole (hr.less (by decide)) (by rfl) T.g_is_whole T.k_is_whole T.b_is_whole tk (a_cons (e_var 0 (pv 0)) a_nil)) (e_one (e_chain op_le p_le op_le p_le (e_var 1 (pv 1)) (e_var 0 (pv 0)) (e_var 2 (pv 2)))))))
theorem Tx.k_is_size (T : Tx P w K mg base ca) : PySem.W.keepIn K (.ref T.f_is_size) = true := T.F_is_size.kp
theorem Tx.b_is_size (T : Tx P w K mg base ca) : Binds K T.d_is_size ["thing"] [] := T.F_is_size.binds fun _ _ _ _ _ _ us hl => match us, hl with | [_], _ => rfl
theorem Tx.ok_is_size (T : Tx P w K mg base ca) : FnG P w K mg base (L2N.CX P w) 3 T.f_is_size T.d_is_size ["thing"] (spM (C.mk K ca none) 1 m_is_size) := by
  refine fn_okM (c := C.mk K ca none) T.F_is_size sc_is_size fun cdv A outer s H E hr => ?_
  have tk := L2N.takes_of (X := cxOf (L2N.CX P w) P w K mg base N_is_size "is_size" (defScope s_is_size) T.f_is_size cdv A outer s H E) rfl rfl rfl rfl
  exact (ss_one (s_ret (e_and (e_call way_F T.ok_is_from (hr.less (by decide)) (by rfl) T.g_is_from T.k_is_from T.b_is_from tk (a_cons (e_var 0 (pv 0)) (a_cons (e_c (C8.pe_gc rfl T.v_LOT) T.r_LOT) (a_cons (e_c (C8.pe_gc rfl T.v_MOST_SIZE) T.r_MOST_SIZE) a_nil)))) (e_one (e_cmp (op_eqX (hu65 hr)) p_eqX (e_op op_mod p_mod (e_var 0 (pv 0)) (e_c (C8.pe_gc rfl T.v_LOT) T.r_LOT)) (e_c pe_int rint) (nomark _))))))
theorem Tx.k_is_frame (T : Tx P w K mg base ca) : PySem.W.keepIn K (.ref T.f_is_frame) = true := T.F_is_frame.kp
theorem Tx.b_is_frame (T : Tx P w K mg base ca) : Binds K T.d_is_frame ["size", "thing"] [] := T.F_is_frame.binds fun _ _ _ _ _ _ us hl => match us, hl with | [_, _], _ => rfl
theorem Tx.ok_is_frame (T : Tx P w K mg base ca) : FnG P w K mg base (L2N.CX P w) 3 T.f_is_frame T.d_is_frame ["size", "thing"] (spM (C.mk K ca none) 2 m_is_frame) := by
  refine fn_okM (c := C.mk K ca none) T.F_is_frame sc_is_frame fun cdv A outer s H E hr => ?_
  have tk := L2N.takes_of (X := cxOf (L2N.CX P w) P w K mg base N_is_frame "is_frame" (defScope s_is_frame) T.f_is_frame cdv A outer s H E) rfl rfl rfl rfl
  exact (ss_one (s_ret (e_call way_R T.ok_is_from (hr.less (by decide)) (by rfl) T.g_is_from T.k_is_from T.b_is_from tk (a_cons (e_var 1 (pv 1)) (a_cons (e_c pe_int rint) (a_cons (e_op op_sub p_sub (e_var 0 (pv 0)) (e_c pe_int rint)) a_nil))))))
theorem Tx.k_look_at_size (T : Tx P w K mg base ca) : PySem.W.keepIn K (.ref T.f_look_at_size) = true := T.F_look_at_size.kp
theorem Tx.b_look_at_size (T : Tx P w K mg base ca) : Binds K T.d_look_at_size ["size"] [] := T.F_look_at_size.binds fun _ _ _ _ _ _ us hl => match us, hl with | [_], _ => rfl
theorem Tx.ok_look_at_size (T : Tx P w K mg base ca) : FnG P w K mg base (L2N.CX P w) 4 T.f_look_at_size T.d_look_at_size ["size"] (spM (C.mk K ca none) 1 m_look_at_size) := by
  refine fn_okM (c := C.mk K ca none) T.F_look_at_size sc_look_at_size fun cdv A outer s H E hr => ?_
  have tk := L2N.takes_of (X := cxOf (L2N.CX P w) P w K mg base N_look_at_size "look_at_size" (defScope s_look_at_size) T.f_look_at_size cdv A outer s H E) rfl rfl rfl rfl
  exact (ss_one (s_if (t_not (t_tru (e_call way_F T.ok_is_size (hr.less (by decide)) (by rfl) T.g_is_size T.k_is_size T.b_is_size tk (a_cons (e_var 0 (pv 0)) a_nil))))
  (ss_one s_never)
  ss_nil))
theorem Tx.k_is_rights (T : Tx P w K mg base ca) : PySem.W.keepIn K (.ref T.f_is_rights) = true := T.F_is_rights.kp
theorem Tx.b_is_rights (T : Tx P w K mg base ca) : Binds K T.d_is_rights ["thing"] [] := T.F_is_rights.binds fun _ _ _ _ _ _ us hl => match us, hl with | [_], _ => rfl
theorem Tx.ok_is_rights (T : Tx P w K mg base ca) : FnG P w K mg base (L2N.CX P w) 1 T.f_is_rights T.d_is_rights ["thing"] (spM (C.mk K ca none) 1 m_is_rights) := by
  refine fn_okM (c := C.mk K ca none) T.F_is_rights sc_is_rights fun cdv A outer s H E hr => ?_
  have tk := L2N.takes_of (X := cxOf (L2N.CX P w) P w K mg base N_is_rights "is_rights" (defScope s_is_rights) T.f_is_rights cdv A outer s H E) rfl rfl rfl rfl
  exact (ss_one (s_ret (e_and (e_isi .str rfl (by rfl) T.z_isinstance (by rfl) T.z_str (by decide +kernel) boot_isinstance (e_var 0 (pv 0))) (e_one (e_cmp op_in_seq p_inS (e_var 0 (pv 0)) (e_c (C8.pe_gc rfl T.v_RIGHTS) T.r_RIGHTS) (by rfl))))))
theorem Tx.k_is_word (T : Tx P w K mg base ca) : PySem.W.keepIn K (.ref T.f_is_word) = true := T.F_is_word.kp
theorem Tx.b_is_word (T : Tx P w K mg base ca) : Binds K T.d_is_word ["thing"] [] := T.F_is_word.binds fun _ _ _ _ _ _ us hl => match us, hl with | [_], _ => rfl
theorem Tx.ok_is_word (T : Tx P w K mg base ca) : FnG P w K mg base (L2N.CX P w) 1 T.f_is_word T.d_is_word ["thing"] (spM (C.mk K ca none) 1 m_is_word) := by
  refine fn_okM (c := C.mk K ca none) T.F_is_word sc_is_word fun cdv A outer s H E hr => ?_
  have tk := L2N.takes_of (X := cxOf (L2N.CX P w) P w K mg base N_is_word "is_word" (defScope s_is_word) T.f_is_word cdv A outer s H E) rfl rfl rfl rfl
  exact (ss_cons (s_if (PW.pt (w_or (t_not (t_tru (e_isi .str rfl (by rfl) T.z_isinstance (by rfl) T.z_str (by decide +kernel) boot_isinstance (e_var 0 (pv 0))))) (w_or (t_not (t_chain op_le p_le op_le p_le (e_c pe_int rint) (e_builtin call_lenC p_lenC (by rfl) T.z_len (by decide +kernel) (a_cons (e_var 0 (pv 0)) a_nil)) (e_c (C8.pe_gc rfl T.v_LONGEST) T.r_LONGEST))) (w_one2 (t_cmp op_in_seq p_inS (e_var 0 (pv 0)) (e_c (C8.pe_gc rfl T.v_NO_WORDS) T.r_NO_WORDS) (by rfl))))))
  (ss_one (s_ret (e_c pe_bl rbl)))
  ss_nil)
  (ss_one (s_ret (e_builtin (cr_all rfl) p_all (by rfl) T.z_all (by decide +kernel) (a_cons (e_lc (own := [("sign", 1)]) finV fin_V rfl sc_is_word.nd  (i_str (e_var 0 (pv 0))) (blkOk_by (own := [("sign", 1)]) (N := N_is_word) (sc := defScope s_is_word) (by decide +kernel)) (rd_name (by decide)) (fun _ _ _ _ _ => (pg_name (i := 1) sc_is_word.nd rfl (Or.inl rfl))) (fun _ _ _ _ _ => pts0) (fun _ _ _ _ _ => (e_cmp op_in_sign p_inSg (e_var 1 (pv 1)) (e_c (C8.pe_gc rfl T.v_SIGNS) T.r_SIGNS) (by rfl)))) a_nil)))))
theorem Tx.k_is_worth (T : Tx P w K mg base ca) : PySem.W.keepIn K (.ref T.f_is_worth) = true := T.F_is_worth.kp
theorem Tx.b_is_worth (T : Tx P w K mg base ca) : Binds K T.d_is_worth ["thing"] [] := T.F_is_worth.binds fun _ _ _ _ _ _ us hl => match us, hl with | [_], _ => rfl
theorem Tx.ok_is_worth (T : Tx P w K mg base ca) : FnG P w K mg base (L2N.CX P w) 3 T.f_is_worth T.d_is_worth ["thing"] (spM (C.mk K ca none) 1 m_is_worth) := by
  refine fn_okM (c := C.mk K ca none) T.F_is_worth sc_is_worth fun cdv A outer s H E hr => ?_
  have tk := L2N.takes_of (X := cxOf (L2N.CX P w) P w K mg base N_is_worth "is_worth" (defScope s_is_worth) T.f_is_worth cdv A outer s H E) rfl rfl rfl rfl
  exact (ss_one (s_ret (e_call way_R T.ok_is_from (hr.less (by decide)) (by rfl) T.g_is_from T.k_is_from T.b_is_from tk (a_cons (e_var 0 (pv 0)) (a_cons (e_un un_neg p_neg (e_c (C8.pe_gc rfl T.v_MOST_WORTH) T.r_MOST_WORTH)) (a_cons (e_c (C8.pe_gc rfl T.v_MOST_WORTH) T.r_MOST_WORTH) a_nil))))))
theorem Tx.k_look_at_worth (T : Tx P w K mg base ca) : PySem.W.keepIn K (.ref T.f_look_at_worth) = true := T.F_look_at_worth.kp
theorem Tx.b_look_at_worth (T : Tx P w K mg base ca) : Binds K T.d_look_at_worth ["worth"] [] := T.F_look_at_worth.binds fun _ _ _ _ _ _ us hl => match us, hl with | [_], _ => rfl
theorem Tx.ok_look_at_worth (T : Tx P w K mg base ca) : FnG P w K mg base (L2N.CX P w) 4 T.f_look_at_worth T.d_look_at_worth ["worth"] (spM (C.mk K ca none) 1 m_look_at_worth) := by
  refine fn_okM (c := C.mk K ca none) T.F_look_at_worth sc_look_at_worth fun cdv A outer s H E hr => ?_
  have tk := L2N.takes_of (X := cxOf (L2N.CX P w) P w K mg base N_look_at_worth "look_at_worth" (defScope s_look_at_worth) T.f_look_at_worth cdv A outer s H E) rfl rfl rfl rfl
  exact (ss_one (s_if (t_not (t_tru (e_call way_F T.ok_is_worth (hr.less (by decide)) (by rfl) T.g_is_worth T.k_is_worth T.b_is_worth tk (a_cons (e_var 0 (pv 0)) a_nil))))
  (ss_one s_never)
  ss_nil))
theorem Tx.k_look_at_address (T : Tx P w K mg base ca) : PySem.W.keepIn K (.ref T.f_look_at_address) = true := T.F_look_at_address.kp
theorem Tx.b_look_at_address (T : Tx P w K mg base ca) : Binds K T.d_look_at_address ["address"] [] := T.F_look_at_address.binds fun _ _ _ _ _ _ us hl => match us, hl with | [_], _ => rfl
theorem Tx.ok_look_at_address (T : Tx P w K mg base ca) : FnG P w K mg base (L2N.CX P w) 3 T.f_look_at_address T.d_look_at_address ["address"] (spM (C.mk K ca none) 1 m_look_at_address) := by
  refine fn_okM (c := C.mk K ca none) T.F_look_at_address sc_look_at_address fun cdv A outer s H E hr => ?_
  have tk := L2N.takes_of (X := cxOf (L2N.CX P w) P w K mg base N_look_at_address "look_at_address" (defScope s_look_at_address) T.f_look_at_address cdv A outer s H E) rfl rfl rfl rfl
  exact (ss_one (s_if (t_not (t_tru (e_call way_F T.ok_is_from (hr.less (by decide)) (by rfl) T.g_is_from T.k_is_from T.b_is_from tk (a_cons (e_var 0 (pv 0)) (a_cons (e_c pe_int rint) (a_cons (e_c (C8.pe_gc rfl T.v_MOST_ADDRESS) T.r_MOST_ADDRESS) a_nil))))))
  (ss_one s_never)
  ss_nil))
theorem Tx.k_look_at_rights (T : Tx P w K mg base ca) : PySem.W.keepIn K (.ref T.f_look_at_rights) = true := T.F_look_at_rights.kp
theorem Tx.b_look_at_rights (T : Tx P w K mg base ca) : Binds K T.d_look_at_rights ["rights"] [] := T.F_look_at_rights.binds fun _ _ _ _ _ _ us hl => match us, hl with | [_], _ => rfl
theorem Tx.ok_look_at_rights (T : Tx P w K mg base ca) : FnG P w K mg base (L2N.CX P w) 2 T.f_look_at_rights T.d_look_at_rights ["rights"] (spM (C.mk K ca none) 1 m_look_at_rights) := by
  refine fn_okM (c := C.mk K ca none) T.F_look_at_rights sc_look_at_rights fun cdv A outer s H E hr => ?_
  have tk := L2N.takes_of (X := cxOf (L2N.CX P w) P w K mg base N_look_at_rights "look_at_rights" (defScope s_look_at_rights) T.f_look_at_rights cdv A outer s H E) rfl rfl rfl rfl
  exact (ss_one (s_if (t_not (t_tru (e_call way_F T.ok_is_rights (hr.less (by decide)) (by rfl) T.g_is_rights T.k_is_rights T.b_is_rights tk (a_cons (e_var 0 (pv 0)) a_nil))))
  (ss_one s_never)
  ss_nil))
theorem Tx.k_for_tenant (T : Tx P w K mg base ca) : PySem.W.keepIn K (.ref T.f_for_tenant) = true := T.F_for_tenant.kp
theorem Tx.b_for_tenant (T : Tx P w K mg base ca) : Binds K T.d_for_tenant ["free", "lots"] [] := T.F_for_tenant.binds fun _ _ _ _ _ _ us hl => match us, hl with | [_, _], _ => rfl
theorem Tx.ok_for_tenant (T : Tx P w K mg base ca) : FnG P w K mg base (L2N.CX P w) 1 T.f_for_tenant T.d_for_tenant ["free", "lots"] (spM (C.mk K ca none) 2 m_for_tenant) := by
  refine fn_okM (c := C.mk K ca none) T.F_for_tenant sc_for_tenant fun cdv A outer s H E hr => ?_
  have tk := L2N.takes_of (X := cxOf (L2N.CX P w) P w K mg base N_for_tenant "for_tenant" (defScope s_for_tenant) T.f_for_tenant cdv A outer s H E) rfl rfl rfl rfl
  exact (ss_cons (s_setLc (i := 2) (own := [("frame", 3)]) finV fin_V rfl sc_for_tenant.nd rfl rfl (sw_true rfl rfl rfl (by decide +kernel))  (i_list rfl (e_var 0 (pv 0))) (blkOk_by (own := [("frame", 3)]) (N := N_for_tenant) (sc := defScope s_for_tenant) (by decide +kernel)) (rd_name (by decide)) (fun _ _ _ _ _ => (pg_name (i := 3) sc_for_tenant.nd rfl (Or.inl rfl))) (fun _ _ _ _ _ => (pts1 (t_cmp (op_notInC (hu65 hr)) p_notInC (e_op op_fdiv p_div (e_var 3 (pv 3)) (e_c (C8.pe_gc rfl T.v_LOT) T.r_LOT)) (e_var 1 (pv 1)) (by rfl)))) (fun _ _ _ _ _ => (e_var 3 (pv 3))))
  (ss_one (s_ret (e_ixA (hu_of hr.toRoom) rfl (e_op op_add4 (p_add finN_V) (e_var 2 (pv 2)) (e_var 0 (pv 0))) (e_c pe_int rint) (fun _ _ => rfl)))))
theorem Tx.b_Move___init__ (T : Tx P w K mg base ca) : Binds K T.d_Move___init__ ["self", "frame", "to"] [] := T.F_Move___init__.binds fun _ _ _ _ _ _ us hl => match us, hl with | [_, _, _], _ => rfl
theorem Tx.ok_Move___init__ (T : Tx P w K mg base ca) : FnG P w K mg base (L2N.CX P w) 1 T.f_Move___init__ T.d_Move___init__ ["self", "frame", "to"] (spM (C.mk K ca none) 3 m_Move___init__) := by
  refine fn_okM (c := C.mk K ca none) T.F_Move___init__ sc_Move___init__ fun cdv A outer s H E hr => ?_
  have tk := L2N.takes_of (X := cxOf (L2N.CX P w) P w K mg base N_Move___init__ "Move.__init__" (defScope s_Move___init__) T.f_Move___init__ cdv A outer s H E) rfl rfl rfl rfl
  exact (ss_cons (s_fld (cs := [1]) rfl T.fa_frame_from (e_var 1 (pv 1)) (e_var 0 (pv 0)))
  (ss_cons (s_fld (cs := [1]) rfl T.fa_frame_to (e_var 2 (pv 2)) (e_var 0 (pv 0)))
  (ss_cons (s_fld (cs := [1]) rfl T.fa_has_copied (e_c pe_bl rbl) (e_var 0 (pv 0)))
  (ss_one (s_fld (cs := [1]) rfl T.fa_right_ones e_dictT (e_var 0 (pv 0)))))))
theorem Tx.b_Move_told (T : Tx P w K mg base ca) : Binds K T.d_Move_told ["self"] [] := T.F_Move_told.binds fun _ _ _ _ _ _ us hl => match us, hl with | [_], _ => rfl
theorem Tx.ok_Move_told (T : Tx P w K mg base ca) : FnG P w K mg base (L2N.CX P w) 1 T.f_Move_told T.d_Move_told ["self"] (spM (C.mk K ca none) 1 m_Move_told) := by
  refine fn_okM (c := C.mk K ca none) T.F_Move_told sc_Move_told fun cdv A outer s H E hr => ?_
  have tk := L2N.takes_of (X := cxOf (L2N.CX P w) P w K mg base N_Move_told "Move.told" (defScope s_Move_told) T.f_Move_told cdv A outer s H E) rfl rfl rfl rfl
  exact (ss_one (s_ret (e_tup (a_cons (e_fld (cs := [1]) rfl T.fa_frame_from (e_var 0 (pv 0))) (a_cons (e_fld (cs := [1]) rfl T.fa_frame_to (e_var 0 (pv 0))) (a_cons (e_fld (cs := [1]) rfl T.fa_has_copied (e_var 0 (pv 0))) (a_cons (e_builtin call_lenC p_lenC (by rfl) T.z_len (by decide +kernel) (a_cons (e_fld (cs := [1]) rfl T.fa_right_ones (e_var 0 (pv 0))) a_nil)) a_nil)))))))
theorem Tx.b_Store___init__ (T : Tx P w K mg base ca) : Binds K T.d_Store___init__ ["self", "size"] [] := T.F_Store___init__.binds fun _ _ _ _ _ _ us hl => match us, hl with | [_, _], _ => rfl
theorem Tx.ok_Store___init__ (T : Tx P w K mg base ca) : FnG P w K mg base (L2N.CX P w) 5 T.f_Store___init__ T.d_Store___init__ ["self", "size"] (spM (C.mk K ca none) 2 m_Store___init__) := by
  refine fn_okM (c := C.mk K ca none) T.F_Store___init__ sc_Store___init__ fun cdv A outer s H E hr => ?_
  have tk := L2N.takes_of (X := cxOf (L2N.CX P w) P w K mg base N_Store___init__ "Store.__init__" (defScope s_Store___init__) T.f_Store___init__ cdv A outer s H E) rfl rfl rfl rfl
  exact (ss_cons (s_expr (e_call way_F T.ok_look_at_size (hr.less (by decide)) (by rfl) T.g_look_at_size T.k_look_at_size T.b_look_at_size tk (a_cons (e_var 1 (pv 1)) a_nil)))
  (ss_cons (s_fld (cs := [0]) rfl T.fa_own_size (e_var 1 (pv 1)) (e_var 0 (pv 0)))
  (ss_cons (s_fld (cs := [0]) rfl T.fa_worths e_dict (e_var 0 (pv 0)))
  (ss_cons (s_fld (cs := [0]) rfl T.fa_house_frames e_dict (e_var 0 (pv 0)))
  (ss_cons (s_fld (cs := [0]) rfl T.fa_kept_worths e_dict (e_var 0 (pv 0)))
  (ss_cons (s_fld (cs := [0]) rfl T.fa_own_pins e_dict (e_var 0 (pv 0)))
  (ss_cons (s_fld (cs := [0]) rfl T.fa_spots e_dict (e_var 0 (pv 0)))
  (ss_cons (s_fld (cs := [0]) rfl T.fa_tables e_dict (e_var 0 (pv 0)))
  (ss_one (s_fld (cs := [0]) rfl T.fa_own_moves e_dict (e_var 0 (pv 0))))))))))))
theorem Tx.b_Store_held_for (T : Tx P w K mg base ca) : Binds K T.d_Store_held_for ["self", "frame"] [] := T.F_Store_held_for.binds fun _ _ _ _ _ _ us hl => match us, hl with | [_, _], _ => rfl
theorem Tx.ok_Store_held_for (T : Tx P w K mg base ca) : FnG P w K mg base (L2N.CX P w) 1 T.f_Store_held_for T.d_Store_held_for ["self", "frame"] (spM (C.mk K ca none) 2 m_Store_held_for) := by
  refine fn_okM (c := C.mk K ca none) T.F_Store_held_for sc_Store_held_for fun cdv A outer s H E hr => ?_
  have tk := L2N.takes_of (X := cxOf (L2N.CX P w) P w K mg base N_Store_held_for "Store.held_for" (defScope s_Store_held_for) T.f_Store_held_for cdv A outer s H E) rfl rfl rfl rfl
  exact (ss_cons (s_lk (m1 (mFld [0] (Str.ofString "own_moves")) (mVar 0)) (s_for (passes_of rfl) rfl (i_valsR (e_fld (cs := [0]) rfl T.fa_own_moves (e_var 0 (pv 0)))) (g_name (i := 2) sc_Store_held_for.nd rfl (Or.inl rfl)) (ss_one (s_if (t_cmp (op_eqX (hu65 hr)) p_eqX (e_fld (cs := [1]) rfl T.fa_frame_to (e_var 2 (pv 2))) (e_var 1 (pv 1)) (nomark _))
  (ss_one (s_ret (e_fld (cs := [1]) rfl T.fa_frame_from (e_var 2 (pv 2)))))
  ss_nil))))
  (ss_one (s_ret (e_c pe_non rnon))))
theorem Tx.b_Store_what (T : Tx P w K mg base ca) : Binds K T.d_Store_what ["self", "frame"] [] := T.F_Store_what.binds fun _ _ _ _ _ _ us hl => match us, hl with | [_, _], _ => rfl
theorem Tx.ok_Store_what (T : Tx P w K mg base ca) : FnG P w K mg base (L2N.CX P w) 4 T.f_Store_what T.d_Store_what ["self", "frame"] (spM (C.mk K ca none) 2 m_Store_what) := by
  refine fn_okM (c := C.mk K ca none) T.F_Store_what sc_Store_what fun cdv A outer s H E hr => ?_
  have tk := L2N.takes_of (X := cxOf (L2N.CX P w) P w K mg base N_Store_what "Store.what" (defScope s_Store_what) T.f_Store_what cdv A outer s H E) rfl rfl rfl rfl
  exact (ss_cons (s_if (t_not (t_tru (e_call way_F T.ok_is_frame (hr.less (by decide)) (by rfl) T.g_is_frame T.k_is_frame T.b_is_frame tk (a_cons (e_fld (cs := [0]) rfl T.fa_own_size (e_var 0 (pv 0))) (a_cons (e_var 1 (pv 1)) a_nil)))))
  (ss_one s_never)
  ss_nil)
  (ss_cons (s_if (t_cmp (op_inC (hu65 hr)) p_inC (e_var 1 (pv 1)) (e_fld (cs := [0]) rfl T.fa_house_frames (e_var 0 (pv 0))) (by rfl))
  (ss_one (s_ret (e_tup (a_cons (e_c pe_str rstr) a_nil))))
  ss_nil)
  (ss_cons (s_if (t_cmp (op_inC (hu65 hr)) p_inC (e_var 1 (pv 1)) (e_fld (cs := [0]) rfl T.fa_kept_worths (e_var 0 (pv 0))) (by rfl))
  (ss_one (s_ret (e_tup (a_cons (e_c pe_str rstr) (a_cons (e_ixA (hu_of hr.toRoom) rfl (e_fld (cs := [0]) rfl T.fa_kept_worths (e_var 0 (pv 0))) (e_var 1 (pv 1)) (fun _ _ => rfl)) a_nil)))))
  ss_nil)
  (ss_cons (s_if (t_cmp op_isNotA p_isnot (e_meth (j := 0) (dm := []) way_F rfl T.cls_Store T.M_Store_held_for T.ok_Store_held_for (hr.less (by decide)) T.b_Store_held_for .nil (fun _ _ _ => .nil) tk (e_var 0 (pv 0)) (a_cons (e_var 1 (pv 1)) a_nil)) (e_c pe_non rnon) (nomark _))
  (ss_one (s_ret (e_tup (a_cons (e_c pe_str rstr) (a_cons (e_meth (j := 0) (dm := []) way_F rfl T.cls_Store T.M_Store_held_for T.ok_Store_held_for (hr.less (by decide)) T.b_Store_held_for .nil (fun _ _ _ => .nil) tk (e_var 0 (pv 0)) (a_cons (e_var 1 (pv 1)) a_nil)) a_nil)))))
  ss_nil)
  (ss_cons (s_if (t_cmp (op_inC (hu65 hr)) p_inC (e_var 1 (pv 1)) (e_fld (cs := [0]) rfl T.fa_worths (e_var 0 (pv 0))) (by rfl))
  (ss_one (s_ret (e_tup (a_cons (e_c pe_str rstr) (a_cons (e_ixA (hu_of hr.toRoom) rfl (e_fld (cs := [0]) rfl T.fa_worths (e_var 0 (pv 0))) (e_var 1 (pv 1)) (fun _ _ => rfl)) (a_cons (e_tupleOf rfl (by rfl) T.z_tuple (e_builtin (cr_srt rfl (hu65 hr)) (p_srt finN_V) (by rfl) T.z_sorted (by decide +kernel) (a_cons (e_ixA (hu_of hr.toRoom) rfl (e_fld (cs := [0]) rfl T.fa_spots (e_var 0 (pv 0))) (e_var 1 (pv 1)) (fun _ _ => rfl)) a_nil))) a_nil))))))
  ss_nil)
  (ss_one (s_ret (e_tup (a_cons (e_c pe_str rstr) a_nil)))))))))
theorem Tx.b_Store_table_of (T : Tx P w K mg base ca) : Binds K T.d_Store_table_of ["self", "word"] [] := T.F_Store_table_of.binds fun _ _ _ _ _ _ us hl => match us, hl with | [_, _], _ => rfl
theorem Tx.ok_Store_table_of (T : Tx P w K mg base ca) : FnG P w K mg base (L2N.CX P w) 1 T.f_Store_table_of T.d_Store_table_of ["self", "word"] (spM (C.mk K ca none) 2 m_Store_table_of) := by
  refine fn_okM (c := C.mk K ca none) T.F_Store_table_of sc_Store_table_of fun cdv A outer s H E hr => ?_
  have tk := L2N.takes_of (X := cxOf (L2N.CX P w) P w K mg base N_Store_table_of "Store.table_of" (defScope s_Store_table_of) T.f_Store_table_of cdv A outer s H E) rfl rfl rfl rfl
  exact (ss_cons (s_if (PW.pt (w_or (t_not (t_tru (e_isi .str rfl (by rfl) T.z_isinstance (by rfl) T.z_str (by decide +kernel) boot_isinstance (e_var 1 (pv 1))))) (w_one2 (t_cmp (op_notInC (hu65 hr)) p_notInC (e_var 1 (pv 1)) (e_fld (cs := [0]) rfl T.fa_tables (e_var 0 (pv 0))) (by rfl)))))
  (ss_one s_never)
  ss_nil)
  (ss_one (s_ret (e_ixA (hu_of hr.toRoom) rfl (e_fld (cs := [0]) rfl T.fa_tables (e_var 0 (pv 0))) (e_var 1 (pv 1)) (fun _ _ => rfl)))))
theorem Tx.b_Store_table (T : Tx P w K mg base ca) : Binds K T.d_Store_table ["self", "word"] [] := T.F_Store_table.binds fun _ _ _ _ _ _ us hl => match us, hl with | [_, _], _ => rfl
theorem Tx.ok_Store_table (T : Tx P w K mg base ca) : FnG P w K mg base (L2N.CX P w) 2 T.f_Store_table T.d_Store_table ["self", "word"] (spM (C.mk K ca none) 2 m_Store_table) := by
  refine fn_okM (c := C.mk K ca none) T.F_Store_table sc_Store_table fun cdv A outer s H E hr => ?_
  have tk := L2N.takes_of (X := cxOf (L2N.CX P w) P w K mg base N_Store_table "Store.table" (defScope s_Store_table) T.f_Store_table cdv A outer s H E) rfl rfl rfl rfl
  exact (ss_cons (s_set (i := 2) sc_Store_table.nd rfl (Or.inl rfl) e_dict)
  (ss_cons (s_for (passes_of rfl) rfl (i_list rfl (e_sortItems finN_V (hu65 hr) rfl rfl (e_meth (j := 0) (dm := []) way_F rfl T.cls_Store T.M_Store_table_of T.ok_Store_table_of (hr.less (by decide)) T.b_Store_table_of .nil (fun _ _ _ => .nil) tk (e_var 0 (pv 0)) (a_cons (e_var 1 (pv 1)) a_nil)) (by rfl) T.z_sorted (by decide +kernel))) (g_tup rfl rfl (gs_cons (g_name (i := 3) sc_Store_table.nd rfl (Or.inl rfl)) (gs_cons (g_tup rfl rfl (gs_cons (g_name (i := 4) sc_Store_table.nd rfl (Or.inl rfl)) (gs_cons (g_name (i := 5) sc_Store_table.nd rfl (Or.inl rfl)) (gs_cons (g_name (i := 6) sc_Store_table.nd rfl (Or.inl rfl)) gs_nil)))) gs_nil))) (ss_cons (s_set (i := 7) sc_Store_table.nd rfl (Or.inl rfl) (e_dget1 (hu_of hr.toRoom) (e_fld (cs := [0]) rfl T.fa_own_moves (e_var 0 (pv 0))) (e_var 4 (pv 4)) ⟨rfl, rfl, rfl, rfl⟩))
  (ss_one (s_if (t_tru (e_var 6 (pv 6)))
  (ss_one (s_if (t_cmp (op_eqX (hu65 hr)) p_eqX (e_op op_mod p_mod (e_var 3 (pv 3)) (e_c (C8.pe_gc rfl T.v_STRETCH) T.r_STRETCH)) (e_c pe_int rint) (nomark _))
  (ss_one (s_setC (hu_of hr.toRoom) (e_tup (a_cons (e_c pe_str rstr) (a_cons (e_var 4 (pv 4)) (a_cons (e_var 5 (pv 5)) a_nil)))) (e_var 2 (pv 2)) (e_var 3 (pv 3))))
  ss_nil))
  (ss_one (s_if (t_cmp op_isA p_is (e_var 7 (pv 7)) (e_c pe_non rnon) (nomark _))
  (ss_one (s_setC (hu_of hr.toRoom) (e_tup (a_cons (e_c pe_str rstr) (a_cons (e_var 4 (pv 4)) (a_cons (e_var 5 (pv 5)) a_nil)))) (e_var 2 (pv 2)) (e_var 3 (pv 3))))
  (ss_one (s_if (t_cmp (op_inC (hu65 hr)) p_inC (e_tup (a_cons (e_var 1 (pv 1)) (a_cons (e_var 3 (pv 3)) a_nil))) (e_fld (cs := [1]) rfl T.fa_right_ones (e_var 7 (pv 7))) (by rfl))
  (ss_one (s_setC (hu_of hr.toRoom) (e_tup (a_cons (e_c pe_str rstr) (a_cons (e_fld (cs := [1]) rfl T.fa_frame_to (e_var 7 (pv 7))) (a_cons (e_var 5 (pv 5)) a_nil)))) (e_var 2 (pv 2)) (e_var 3 (pv 3))))
  (ss_one (s_setC (hu_of hr.toRoom) (e_tup (a_cons (e_c pe_str rstr) (a_cons (e_var 4 (pv 4)) (a_cons (e_var 5 (pv 5)) a_nil)))) (e_var 2 (pv 2)) (e_var 3 (pv 3))))))))))))
  (ss_one (s_ret (e_var 2 (pv 2))))))
theorem Tx.b_Store_free (T : Tx P w K mg base ca) : Binds K T.d_Store_free ["self"] [] := T.F_Store_free.binds fun _ _ _ _ _ _ us hl => match us, hl with | [_], _ => rfl
theorem Tx.ok_Store_free (T : Tx P w K mg base ca) : FnG P w K mg base (L2N.CX P w) 5 T.f_Store_free T.d_Store_free ["self"] (spM (C.mk K ca none) 1 m_Store_free) := by
  refine fn_okM (c := C.mk K ca none) T.F_Store_free sc_Store_free fun cdv A outer s H E hr => ?_
  have tk := L2N.takes_of (X := cxOf (L2N.CX P w) P w K mg base N_Store_free "Store.free" (defScope s_Store_free) T.f_Store_free cdv A outer s H E) rfl rfl rfl rfl
  exact (ss_one (s_ret (e_lc (own := [("frame", 1)]) finR fin_R rfl sc_Store_free.nd  (i_range1 (by rfl) T.z_range (a_cons (e_fld (cs := [0]) rfl T.fa_own_size (e_var 0 (pv 0))) a_nil)) (blkOk_by (own := [("frame", 1)]) (N := N_Store_free) (sc := defScope s_Store_free) (by decide +kernel)) (rd_name (by decide)) (fun _ _ _ _ _ => (pg_name (i := 1) sc_Store_free.nd rfl (Or.inl rfl))) (fun _ _ _ _ _ => (pts1 (t_cmp (op_eqX (hu65 hr)) p_eqX (e_meth (j := 0) (dm := []) way_F rfl T.cls_Store T.M_Store_what T.ok_Store_what (hr.less (by decide)) T.b_Store_what .nil (fun _ _ _ => .nil) takesN0 (e_var 0 (pv 0)) (a_cons (e_var 1 (pv 1)) a_nil)) (e_tup (a_cons (e_c pe_str rstr) a_nil)) (nomark _)))) (fun _ _ _ _ _ => (e_var 1 (pv 1))))))
theorem Tx.b_Store_lots_of_house (T : Tx P w K mg base ca) : Binds K T.d_Store_lots_of_house ["self"] [] := T.F_Store_lots_of_house.binds fun _ _ _ _ _ _ us hl => match us, hl with | [_], _ => rfl
theorem Tx.ok_Store_lots_of_house (T : Tx P w K mg base ca) : FnG P w K mg base (L2N.CX P w) 1 T.f_Store_lots_of_house T.d_Store_lots_of_house ["self"] (spM (C.mk K ca none) 1 m_Store_lots_of_house) := by
  refine fn_okM (c := C.mk K ca none) T.F_Store_lots_of_house sc_Store_lots_of_house fun cdv A outer s H E hr => ?_
  have tk := L2N.takes_of (X := cxOf (L2N.CX P w) P w K mg base N_Store_lots_of_house "Store.lots_of_house" (defScope s_Store_lots_of_house) T.f_Store_lots_of_house cdv A outer s H E) rfl rfl rfl rfl
  exact (ss_one (s_ret (e_lk (m1 (mFld [0] (Str.ofString "house_frames")) (mVar 0)) (e_dc1 (own := [("frame", 1)]) finDR finD_R rfl sc_Store_lots_of_house.nd (i_keysR (e_fld (cs := [0]) rfl T.fa_house_frames (e_var 0 (pv 0)))) (blkOk_by (own := [("frame", 1)]) (N := N_Store_lots_of_house) (sc := defScope s_Store_lots_of_house) (by decide +kernel)) (rd_name (by decide)) (fun _ _ _ _ _ => (pg_name (i := 1) sc_Store_lots_of_house.nd rfl (Or.inl rfl))) (fun _ _ _ _ _ => (e_op op_fdiv p_div (e_var 1 (pv 1)) (e_c (C8.pe_gc rfl T.v_LOT) T.r_LOT))) (fun _ _ _ _ _ => (e_c pe_bl rbl))))))
theorem Tx.F_Store_free_one (T : Tx P w K mg base ca) : Fun K "free_one" "Store.free_one" s_Store_free_one T.f_Store_free_one T.d_Store_free_one := FunD.fun T.FD_Store_free_one
theorem Tx.kn_Store_free_one_1 (T : Tx P w K mg base ca) : KBn K T.d_Store_free_one ["self", "kept"] 1 ["kept"] (fun us ws => us ++ ws) (fun vs zs => vs ++ zs) := FunD.kbX T.FD_Store_free_one 1 ["kept"] fun _ _ _ _ _ _ us ws h1 h2 => match us, ws, h1, h2 with | [_], [_], _, _ => rfl
theorem Tx.ok_Store_free_one (T : Tx P w K mg base ca) : FnG P w K mg base (L2N.CX P w) 6 T.f_Store_free_one T.d_Store_free_one ["self", "kept"] (spM (C.mk K ca none) 2 m_Store_free_one) := by
  refine fn_okM (c := C.mk K ca none) T.F_Store_free_one sc_Store_free_one fun cdv A outer s H E hr => ?_
  have tk := L2N.takes_of (X := cxOf (L2N.CX P w) P w K mg base N_Store_free_one "Store.free_one" (defScope s_Store_free_one) T.f_Store_free_one cdv A outer s H E) rfl rfl rfl rfl
  exact (ss_cons (s_set (i := 2) sc_Store_free_one.nd rfl (Or.inl rfl) (e_meth0 (j := 0) (dm := []) way_F rfl T.cls_Store T.M_Store_free T.ok_Store_free (hr.less (by decide)) T.b_Store_free .nil (fun _ _ _ => .nil) tk (e_var 0 (pv 0))))
  (ss_cons (s_if (PW.pt (w_and (t_cmp (op_eqX (hu65 hr)) p_eqX (e_var 2 (pv 2)) (e_lv a_nil) (nomark _)) (w_and (t_tru (e_var 1 (pv 1))) (w_one1 (t_cmp (op_neC (hu65 hr)) p_neC (e_fld (cs := [0]) rfl T.fa_kept_worths (e_var 0 (pv 0))) e_dictV (nomark _))))))
  (ss_cons (s_expr (e_dpop1 (e_fld (cs := [0]) rfl T.fa_kept_worths (e_var 0 (pv 0))) (e_builtin (call_min2 rfl) p_min (by rfl) T.z_min (by decide +kernel) (a_cons (e_fld (cs := [0]) rfl T.fa_kept_worths (e_var 0 (pv 0))) a_nil)) ⟨rfl, rfl, rfl, rfl⟩))
  (ss_one (s_set (i := 2) sc_Store_free_one.nd rfl (Or.inl rfl) (e_meth0 (j := 0) (dm := []) way_F rfl T.cls_Store T.M_Store_free T.ok_Store_free (hr.less (by decide)) T.b_Store_free .nil (fun _ _ _ => .nil) tk (e_var 0 (pv 0))))))
  ss_nil)
  (ss_cons (s_if (t_cmp (op_eqX (hu65 hr)) p_eqX (e_var 2 (pv 2)) (e_lv a_nil) (nomark _))
  (ss_one s_never)
  ss_nil)
  (ss_one (s_ret (e_var 2 (pv 2)))))))
theorem Tx.F_Store_frame_for_tenant (T : Tx P w K mg base ca) : Fun K "frame_for_tenant" "Store.frame_for_tenant" s_Store_frame_for_tenant T.f_Store_frame_for_tenant T.d_Store_frame_for_tenant := FunD.fun T.FD_Store_frame_for_tenant
theorem Tx.bd_Store_frame_for_tenant (T : Tx P w K mg base ca) : ∃ ds, Vals [.bl true] ds ∧ Binds K T.d_Store_frame_for_tenant ["self", "kept"] ds := T.FD_Store_frame_for_tenant.binds0 1 (by decide) rfl fun _ _ _ _ _ _ us ks h1 h2 => match us, ks, h1, h2 with | [_], [_], _, _ => ⟨_, _, _, _, _, _, rfl, rfl, rfl⟩
theorem Tx.ok_Store_frame_for_tenant (T : Tx P w K mg base ca) : FnG P w K mg base (L2N.CX P w) 7 T.f_Store_frame_for_tenant T.d_Store_frame_for_tenant ["self", "kept"] (spM (C.mk K ca none) 2 m_Store_frame_for_tenant) := by
  refine fn_okM (c := C.mk K ca none) T.F_Store_frame_for_tenant sc_Store_frame_for_tenant fun cdv A outer s H E hr => ?_
  have tk := L2N.takes_of (X := cxOf (L2N.CX P w) P w K mg base N_Store_frame_for_tenant "Store.frame_for_tenant" (defScope s_Store_frame_for_tenant) T.f_Store_frame_for_tenant cdv A outer s H E) rfl rfl rfl rfl
  exact (ss_one (s_ret (e_call way_F T.ok_for_tenant (hr.less (by decide)) (by rfl) T.g_for_tenant T.k_for_tenant T.b_for_tenant tk (a_cons (e_methK0 (j := 0) (np := 1) way_N rfl T.cls_Store T.M_Store_free_one T.ok_Store_free_one (hr.less (by decide)) T.kn_Store_free_one_1 tk (e_var 0 (pv 0)) (k_cons (e_var 1 (pv 1)) k_nil)) (a_cons (e_meth0 (j := 0) (dm := []) way_F rfl T.cls_Store T.M_Store_lots_of_house T.ok_Store_lots_of_house (hr.less (by decide)) T.b_Store_lots_of_house .nil (fun _ _ _ => .nil) tk (e_var 0 (pv 0))) a_nil)))))
theorem Tx.b_Store_come (T : Tx P w K mg base ca) : Binds K T.d_Store_come ["self", "word"] [] := T.F_Store_come.binds fun _ _ _ _ _ _ us hl => match us, hl with | [_, _], _ => rfl
theorem Tx.ok_Store_come (T : Tx P w K mg base ca) : FnG P w K mg base (L2N.CX P w) 2 T.f_Store_come T.d_Store_come ["self", "word"] (spM (C.mk K ca none) 2 m_Store_come) := by
  refine fn_okM (c := C.mk K ca none) T.F_Store_come sc_Store_come fun cdv A outer s H E hr => ?_
  have tk := L2N.takes_of (X := cxOf (L2N.CX P w) P w K mg base N_Store_come "Store.come" (defScope s_Store_come) T.f_Store_come cdv A outer s H E) rfl rfl rfl rfl
  exact (ss_cons (s_if (t_not (t_tru (e_call way_F T.ok_is_word (hr.less (by decide)) (by rfl) T.g_is_word T.k_is_word T.b_is_word tk (a_cons (e_var 1 (pv 1)) a_nil))))
  (ss_one s_never)
  ss_nil)
  (ss_cons (s_if (t_cmp (op_inC (hu65 hr)) p_inC (e_var 1 (pv 1)) (e_fld (cs := [0]) rfl T.fa_tables (e_var 0 (pv 0))) (by rfl))
  (ss_one s_never)
  ss_nil)
  (ss_one (s_setC (hu_of hr.toRoom) e_dict (e_fld (cs := [0]) rfl T.fa_tables (e_var 0 (pv 0))) (e_var 1 (pv 1))))))
theorem Tx.b_Store_entry_at (T : Tx P w K mg base ca) : Binds K T.d_Store_entry_at ["self", "word", "address"] [] := T.F_Store_entry_at.binds fun _ _ _ _ _ _ us hl => match us, hl with | [_, _, _], _ => rfl
theorem Tx.ok_Store_entry_at (T : Tx P w K mg base ca) : FnG P w K mg base (L2N.CX P w) 4 T.f_Store_entry_at T.d_Store_entry_at ["self", "word", "address"] (spM (C.mk K ca none) 3 m_Store_entry_at) := by
  refine fn_okM (c := C.mk K ca none) T.F_Store_entry_at sc_Store_entry_at fun cdv A outer s H E hr => ?_
  have tk := L2N.takes_of (X := cxOf (L2N.CX P w) P w K mg base N_Store_entry_at "Store.entry_at" (defScope s_Store_entry_at) T.f_Store_entry_at cdv A outer s H E) rfl rfl rfl rfl
  exact (ss_cons (s_set (i := 3) sc_Store_entry_at.nd rfl (Or.inl rfl) (e_meth (j := 0) (dm := []) way_F rfl T.cls_Store T.M_Store_table_of T.ok_Store_table_of (hr.less (by decide)) T.b_Store_table_of .nil (fun _ _ _ => .nil) tk (e_var 0 (pv 0)) (a_cons (e_var 1 (pv 1)) a_nil)))
  (ss_cons (s_expr (e_call way_F T.ok_look_at_address (hr.less (by decide)) (by rfl) T.g_look_at_address T.k_look_at_address T.b_look_at_address tk (a_cons (e_var 2 (pv 2)) a_nil)))
  (ss_cons (s_if (t_cmp (op_notInC (hu65 hr)) p_notInC (e_var 2 (pv 2)) (e_var 3 (pv 3)) (by rfl))
  (ss_one s_never)
  ss_nil)
  (ss_one (s_ret (e_ixA (hu_of hr.toRoom) rfl (e_var 3 (pv 3)) (e_var 2 (pv 2)) (fun _ _ => rfl)))))))
theorem Tx.b_Store_tie (T : Tx P w K mg base ca) : Binds K T.d_Store_tie ["self", "word", "address", "frame", "rights"] [] := T.F_Store_tie.binds fun _ _ _ _ _ _ us hl => match us, hl with | [_, _, _, _, _], _ => rfl
theorem Tx.ok_Store_tie (T : Tx P w K mg base ca) : FnG P w K mg base (L2N.CX P w) 1 T.f_Store_tie T.d_Store_tie ["self", "word", "address", "frame", "rights"] (spM (C.mk K ca none) 5 m_Store_tie) := by
  refine fn_okM (c := C.mk K ca none) T.F_Store_tie sc_Store_tie fun cdv A outer s H E hr => ?_
  have tk := L2N.takes_of (X := cxOf (L2N.CX P w) P w K mg base N_Store_tie "Store.tie" (defScope s_Store_tie) T.f_Store_tie cdv A outer s H E) rfl rfl rfl rfl
  exact (ss_cons (s_setC (hu_of hr.toRoom) (e_tup (a_cons (e_var 3 (pv 3)) (a_cons (e_var 4 (pv 4)) (a_cons (e_c pe_bl rbl) a_nil)))) (e_ixA (hu_of hr.toRoom) rfl (e_fld (cs := [0]) rfl T.fa_tables (e_var 0 (pv 0))) (e_var 1 (pv 1)) (fun _ _ => rfl)) (e_var 2 (pv 2)))
  (ss_one (s_setC (hu_of hr.toRoom) (e_c pe_bl rbl) (e_setd (e_fld (cs := [0]) rfl T.fa_spots (e_var 0 (pv 0))) (e_var 3 (pv 3)) e_dictT ⟨rfl, rfl, rfl, rfl⟩) (e_tup (a_cons (e_var 1 (pv 1)) (a_cons (e_var 2 (pv 2)) a_nil))))))
theorem Tx.b_Store_lay_frame (T : Tx P w K mg base ca) : Binds K T.d_Store_lay_frame ["self", "word", "address", "worth", "rights"] [] := T.F_Store_lay_frame.binds fun _ _ _ _ _ _ us hl => match us, hl with | [_, _, _, _, _], _ => rfl
theorem Tx.ok_Store_lay_frame (T : Tx P w K mg base ca) : FnG P w K mg base (L2N.CX P w) 8 T.f_Store_lay_frame T.d_Store_lay_frame ["self", "word", "address", "worth", "rights"] (spM (C.mk K ca none) 5 m_Store_lay_frame) := by
  refine fn_okM (c := C.mk K ca none) T.F_Store_lay_frame sc_Store_lay_frame fun cdv A outer s H E hr => ?_
  have tk := L2N.takes_of (X := cxOf (L2N.CX P w) P w K mg base N_Store_lay_frame "Store.lay_frame" (defScope s_Store_lay_frame) T.f_Store_lay_frame cdv A outer s H E) rfl rfl rfl rfl
  exact (ss_cons (s_set (i := 5) sc_Store_lay_frame.nd rfl (Or.inl rfl) (e_meth0 (j := 0) (dm := [.bl true]) way_N rfl T.cls_Store T.M_Store_frame_for_tenant T.ok_Store_frame_for_tenant (hr.less (by decide)) T.bd_Store_frame_for_tenant.choose_spec.2 T.bd_Store_frame_for_tenant.choose_spec.1 (fun _ _ _ => .cons (rbl _ _ _) (.nil)) tk (e_var 0 (pv 0))))
  (ss_cons (s_setC (hu_of hr.toRoom) (e_var 3 (pv 3)) (e_fld (cs := [0]) rfl T.fa_worths (e_var 0 (pv 0))) (e_var 5 (pv 5)))
  (ss_one (s_expr (e_meth (j := 0) (dm := []) way_N rfl T.cls_Store T.M_Store_tie T.ok_Store_tie (hr.less (by decide)) T.b_Store_tie .nil (fun _ _ _ => .nil) tk (e_var 0 (pv 0)) (a_cons (e_var 1 (pv 1)) (a_cons (e_var 2 (pv 2)) (a_cons (e_var 5 (pv 5)) (a_cons (e_var 4 (pv 4)) a_nil)))))))))
theorem Tx.F_Store_give (T : Tx P w K mg base ca) : Fun K "give" "Store.give" s_Store_give T.f_Store_give T.d_Store_give := FunD.fun T.FD_Store_give
theorem Tx.bd_Store_give (T : Tx P w K mg base ca) : ∃ ds, Vals [.str (Str.ofString "write")] ds ∧ Binds K T.d_Store_give ["self", "word", "address", "worth", "rights"] ds := T.FD_Store_give.binds0 4 (by decide) rfl fun _ _ _ _ _ _ us ks h1 h2 => match us, ks, h1, h2 with | [_, _, _, _], [_], _, _ => ⟨_, _, _, _, _, _, rfl, rfl, rfl⟩
theorem Tx.ok_Store_give (T : Tx P w K mg base ca) : FnG P w K mg base (L2N.CX P w) 9 T.f_Store_give T.d_Store_give ["self", "word", "address", "worth", "rights"] (spM (C.mk K ca none) 5 m_Store_give) := by
  refine fn_okM (c := C.mk K ca none) T.F_Store_give sc_Store_give fun cdv A outer s H E hr => ?_
  have tk := L2N.takes_of (X := cxOf (L2N.CX P w) P w K mg base N_Store_give "Store.give" (defScope s_Store_give) T.f_Store_give cdv A outer s H E) rfl rfl rfl rfl
  exact (ss_cons (s_set (i := 5) sc_Store_give.nd rfl (Or.inl rfl) (e_meth (j := 0) (dm := []) way_F rfl T.cls_Store T.M_Store_table_of T.ok_Store_table_of (hr.less (by decide)) T.b_Store_table_of .nil (fun _ _ _ => .nil) tk (e_var 0 (pv 0)) (a_cons (e_var 1 (pv 1)) a_nil)))
  (ss_cons (s_expr (e_call way_F T.ok_look_at_address (hr.less (by decide)) (by rfl) T.g_look_at_address T.k_look_at_address T.b_look_at_address tk (a_cons (e_var 2 (pv 2)) a_nil)))
  (ss_cons (s_expr (e_call way_F T.ok_look_at_worth (hr.less (by decide)) (by rfl) T.g_look_at_worth T.k_look_at_worth T.b_look_at_worth tk (a_cons (e_var 3 (pv 3)) a_nil)))
  (ss_cons (s_expr (e_call way_F T.ok_look_at_rights (hr.less (by decide)) (by rfl) T.g_look_at_rights T.k_look_at_rights T.b_look_at_rights tk (a_cons (e_var 4 (pv 4)) a_nil)))
  (ss_cons (s_if (t_cmp (op_inC (hu65 hr)) p_inC (e_var 2 (pv 2)) (e_var 5 (pv 5)) (by rfl))
  (ss_one s_never)
  ss_nil)
  (ss_one (s_expr (e_meth (j := 0) (dm := []) way_N rfl T.cls_Store T.M_Store_lay_frame T.ok_Store_lay_frame (hr.less (by decide)) T.b_Store_lay_frame .nil (fun _ _ _ => .nil) tk (e_var 0 (pv 0)) (a_cons (e_var 1 (pv 1)) (a_cons (e_var 2 (pv 2)) (a_cons (e_var 3 (pv 3)) (a_cons (e_var 4 (pv 4)) a_nil))))))))))))
theorem Tx.b_Store_read (T : Tx P w K mg base ca) : Binds K T.d_Store_read ["self", "word", "address"] [] := T.F_Store_read.binds fun _ _ _ _ _ _ us hl => match us, hl with | [_, _, _], _ => rfl
theorem Tx.ok_Store_read (T : Tx P w K mg base ca) : FnG P w K mg base (L2N.CX P w) 5 T.f_Store_read T.d_Store_read ["self", "word", "address"] (spM (C.mk K ca none) 3 m_Store_read) := by
  refine fn_okM (c := C.mk K ca none) T.F_Store_read sc_Store_read fun cdv A outer s H E hr => ?_
  have tk := L2N.takes_of (X := cxOf (L2N.CX P w) P w K mg base N_Store_read "Store.read" (defScope s_Store_read) T.f_Store_read cdv A outer s H E) rfl rfl rfl rfl
  exact (ss_one (s_ret (e_ixA (hu_of hr.toRoom) rfl (e_fld (cs := [0]) rfl T.fa_worths (e_var 0 (pv 0))) (e_ixA (hu_of hr.toRoom) rfl (e_meth (j := 0) (dm := []) way_F rfl T.cls_Store T.M_Store_entry_at T.ok_Store_entry_at (hr.less (by decide)) T.b_Store_entry_at .nil (fun _ _ _ => .nil) tk (e_var 0 (pv 0)) (a_cons (e_var 1 (pv 1)) (a_cons (e_var 2 (pv 2)) a_nil))) (e_c pe_int rint) (fun _ _ => rfl)) (fun _ _ => rfl))))
theorem Tx.b_Store_part_at (T : Tx P w K mg base ca) : Binds K T.d_Store_part_at ["self", "word", "address"] [] := T.F_Store_part_at.binds fun _ _ _ _ _ _ us hl => match us, hl with | [_, _, _], _ => rfl
theorem Tx.ok_Store_part_at (T : Tx P w K mg base ca) : FnG P w K mg base (L2N.CX P w) 1 T.f_Store_part_at T.d_Store_part_at ["self", "word", "address"] (spM (C.mk K ca none) 3 m_Store_part_at) := by
  refine fn_okM (c := C.mk K ca none) T.F_Store_part_at sc_Store_part_at fun cdv A outer s H E hr => ?_
  have tk := L2N.takes_of (X := cxOf (L2N.CX P w) P w K mg base N_Store_part_at "Store.part_at" (defScope s_Store_part_at) T.f_Store_part_at cdv A outer s H E) rfl rfl rfl rfl
  exact (ss_cons (s_set (i := 3) sc_Store_part_at.nd rfl (Or.inl rfl) (e_ixA (hu_of hr.toRoom) rfl (e_fld (cs := [0]) rfl T.fa_tables (e_var 0 (pv 0))) (e_var 1 (pv 1)) (fun _ _ => rfl)))
  (ss_one (s_if (t_tru (e_ixA (hu_of hr.toRoom) rfl (e_ixA (hu_of hr.toRoom) rfl (e_var 3 (pv 3)) (e_var 2 (pv 2)) (fun _ _ => rfl)) (e_c pe_int rint) (fun _ _ => rfl)))
  (ss_cons (s_set (i := 4) sc_Store_part_at.nd rfl (Or.inl rfl) (e_op op_sub p_sub (e_var 2 (pv 2)) (e_op op_mod p_mod (e_var 2 (pv 2)) (e_c (C8.pe_gc rfl T.v_STRETCH) T.r_STRETCH))))
  (ss_one (s_for (passes_of rfl) rfl (i_range2 (by rfl) T.z_range (a_cons (e_var 4 (pv 4)) (a_cons (e_op op_add4 (p_add finN_V) (e_var 4 (pv 4)) (e_c (C8.pe_gc rfl T.v_STRETCH) T.r_STRETCH)) a_nil))) (g_name (i := 5) sc_Store_part_at.nd rfl (Or.inl rfl)) (ss_one (s_setC (hu_of hr.toRoom) (e_op op_add4 (p_add finN_V) (e_slice finN_V rfl (e_ixA (hu_of hr.toRoom) rfl (e_var 3 (pv 3)) (e_var 5 (pv 5)) (fun _ _ => rfl)) o_none (o_some (e_c pe_int rint))) (e_tup (a_cons (e_c pe_bl rbl) a_nil))) (e_var 3 (pv 3)) (e_var 5 (pv 5)))))))
  ss_nil)))
theorem Tx.b_Store_share (T : Tx P w K mg base ca) : Binds K T.d_Store_share ["self", "word", "address", "other", "place"] [] := T.F_Store_share.binds fun _ _ _ _ _ _ us hl => match us, hl with | [_, _, _, _, _], _ => rfl
theorem Tx.ok_Store_share (T : Tx P w K mg base ca) : FnG P w K mg base (L2N.CX P w) 5 T.f_Store_share T.d_Store_share ["self", "word", "address", "other", "place"] (spM (C.mk K ca none) 5 m_Store_share) := by
  refine fn_okM (c := C.mk K ca none) T.F_Store_share sc_Store_share fun cdv A outer s H E hr => ?_
  have tk := L2N.takes_of (X := cxOf (L2N.CX P w) P w K mg base N_Store_share "Store.share" (defScope s_Store_share) T.f_Store_share cdv A outer s H E) rfl rfl rfl rfl
  exact (ss_cons (s_asg (e_meth (j := 0) (dm := []) way_F rfl T.cls_Store T.M_Store_entry_at T.ok_Store_entry_at (hr.less (by decide)) T.b_Store_entry_at .nil (fun _ _ _ => .nil) tk (e_var 0 (pv 0)) (a_cons (e_var 1 (pv 1)) (a_cons (e_var 2 (pv 2)) a_nil))) (g_tup rfl rfl (gs_cons (g_name (i := 5) sc_Store_share.nd rfl (Or.inl rfl)) (gs_cons (g_name (i := 6) sc_Store_share.nd rfl (Or.inl rfl)) (gs_cons (g_name (i := 7) sc_Store_share.nd rfl (Or.inl rfl)) gs_nil)))))
  (ss_cons (s_set (i := 8) sc_Store_share.nd rfl (Or.inl rfl) (e_meth (j := 0) (dm := []) way_F rfl T.cls_Store T.M_Store_table_of T.ok_Store_table_of (hr.less (by decide)) T.b_Store_table_of .nil (fun _ _ _ => .nil) tk (e_var 0 (pv 0)) (a_cons (e_var 3 (pv 3)) a_nil)))
  (ss_cons (s_expr (e_call way_F T.ok_look_at_address (hr.less (by decide)) (by rfl) T.g_look_at_address T.k_look_at_address T.b_look_at_address tk (a_cons (e_var 4 (pv 4)) a_nil)))
  (ss_cons (s_if (t_cmp (op_inC (hu65 hr)) p_inC (e_var 4 (pv 4)) (e_var 8 (pv 8)) (by rfl))
  (ss_one s_never)
  ss_nil)
  (ss_cons (s_expr (e_meth (j := 0) (dm := []) way_N rfl T.cls_Store T.M_Store_part_at T.ok_Store_part_at (hr.less (by decide)) T.b_Store_part_at .nil (fun _ _ _ => .nil) tk (e_var 0 (pv 0)) (a_cons (e_var 1 (pv 1)) (a_cons (e_var 2 (pv 2)) a_nil))))
  (ss_cons (s_expr (e_meth (j := 0) (dm := []) way_N rfl T.cls_Store T.M_Store_tie T.ok_Store_tie (hr.less (by decide)) T.b_Store_tie .nil (fun _ _ _ => .nil) tk (e_var 0 (pv 0)) (a_cons (e_var 3 (pv 3)) (a_cons (e_var 4 (pv 4)) (a_cons (e_var 5 (pv 5)) (a_cons (e_var 6 (pv 6)) a_nil))))))
  (ss_cons (s_set (i := 9) sc_Store_share.nd rfl (Or.inl rfl) (e_dget1 (hu_of hr.toRoom) (e_fld (cs := [0]) rfl T.fa_own_moves (e_var 0 (pv 0))) (e_var 5 (pv 5)) ⟨rfl, rfl, rfl, rfl⟩))
  (ss_one (s_if (PW.pt (w_and (t_cmp op_isNotA p_isnot (e_var 9 (pv 9)) (e_c pe_non rnon) (nomark _)) (w_one1 (t_cmp (op_inC (hu65 hr)) p_inC (e_tup (a_cons (e_var 1 (pv 1)) (a_cons (e_var 2 (pv 2)) a_nil))) (e_fld (cs := [1]) rfl T.fa_right_ones (e_var 9 (pv 9))) (by rfl)))))
  (ss_one (s_setC (hu_of hr.toRoom) (e_c pe_bl rbl) (e_fld (cs := [1]) rfl T.fa_right_ones (e_var 9 (pv 9))) (e_tup (a_cons (e_var 3 (pv 3)) (a_cons (e_var 4 (pv 4)) a_nil)))))
  ss_nil)))))))))
theorem Tx.b_Store_begin (T : Tx P w K mg base ca) : Binds K T.d_Store_begin ["self", "frame", "to"] [] := T.F_Store_begin.binds fun _ _ _ _ _ _ us hl => match us, hl with | [_, _, _], _ => rfl
theorem Tx.ok_Store_begin (T : Tx P w K mg base ca) : FnG P w K mg base (L2N.CX P w) 5 T.f_Store_begin T.d_Store_begin ["self", "frame", "to"] (spM (C.mk K ca none) 3 m_Store_begin) := by
  refine fn_okM (c := C.mk K ca none) T.F_Store_begin sc_Store_begin fun cdv A outer s H E hr => ?_
  have tk := L2N.takes_of (X := cxOf (L2N.CX P w) P w K mg base N_Store_begin "Store.begin" (defScope s_Store_begin) T.f_Store_begin cdv A outer s H E) rfl rfl rfl rfl
  exact (ss_cons (s_if (PW.pt (w_or (t_cmp (op_neX (hu65 hr)) p_neX (e_ixA (hu_of hr.toRoom) rfl (e_meth (j := 0) (dm := []) way_F rfl T.cls_Store T.M_Store_what T.ok_Store_what (hr.less (by decide)) T.b_Store_what .nil (fun _ _ _ => .nil) tk (e_var 0 (pv 0)) (a_cons (e_var 1 (pv 1)) a_nil)) (e_c pe_int rint) (fun _ _ => rfl)) (e_c pe_str rstr) (nomark _)) (w_one2 (t_cmp (op_eqC (hu65 hr)) p_eqC (e_ixA (hu_of hr.toRoom) rfl (e_fld (cs := [0]) rfl T.fa_spots (e_var 0 (pv 0))) (e_var 1 (pv 1)) (fun _ _ => rfl)) e_dictV (nomark _)))))
  (ss_one s_never)
  ss_nil)
  (ss_cons (s_if (t_cmp (op_inC (hu65 hr)) p_inC (e_var 1 (pv 1)) (e_fld (cs := [0]) rfl T.fa_own_pins (e_var 0 (pv 0))) (by rfl))
  (ss_one s_never)
  ss_nil)
  (ss_cons (s_if (t_cmp (op_inC (hu65 hr)) p_inC (e_var 1 (pv 1)) (e_fld (cs := [0]) rfl T.fa_own_moves (e_var 0 (pv 0))) (by rfl))
  (ss_one s_never)
  ss_nil)
  (ss_cons (s_if (t_cmp (op_neX (hu65 hr)) p_neX (e_meth (j := 0) (dm := []) way_F rfl T.cls_Store T.M_Store_what T.ok_Store_what (hr.less (by decide)) T.b_Store_what .nil (fun _ _ _ => .nil) tk (e_var 0 (pv 0)) (a_cons (e_var 2 (pv 2)) a_nil)) (e_tup (a_cons (e_c pe_str rstr) a_nil)) (nomark _))
  (ss_one s_never)
  ss_nil)
  (ss_cons (s_for (passes_of rfl) rfl (i_list rfl (e_builtin (cr_srt rfl (hu65 hr)) (p_srt finN_V) (by rfl) T.z_sorted (by decide +kernel) (a_cons (e_ixA (hu_of hr.toRoom) rfl (e_fld (cs := [0]) rfl T.fa_spots (e_var 0 (pv 0))) (e_var 1 (pv 1)) (fun _ _ => rfl)) a_nil))) (g_tup rfl rfl (gs_cons (g_name (i := 3) sc_Store_begin.nd rfl (Or.inl rfl)) (gs_cons (g_name (i := 4) sc_Store_begin.nd rfl (Or.inl rfl)) gs_nil))) (ss_one (s_expr (e_meth (j := 0) (dm := []) way_N rfl T.cls_Store T.M_Store_part_at T.ok_Store_part_at (hr.less (by decide)) T.b_Store_part_at .nil (fun _ _ _ => .nil) tk (e_var 0 (pv 0)) (a_cons (e_var 3 (pv 3)) (a_cons (e_var 4 (pv 4)) a_nil))))))
  (ss_one (s_setC (hu_of hr.toRoom) (e_make (j := 1) rfl T.Mk_Move T.ok_Move___init__ (hr.less (by decide)) (by rfl) T.gC_Move T.b_Move___init__ tk (a_cons (e_var 1 (pv 1)) (a_cons (e_var 2 (pv 2)) a_nil))) (e_fld (cs := [0]) rfl T.fa_own_moves (e_var 0 (pv 0))) (e_var 1 (pv 1)))))))))
theorem Tx.b_Store_move_of (T : Tx P w K mg base ca) : Binds K T.d_Store_move_of ["self", "frame"] [] := T.F_Store_move_of.binds fun _ _ _ _ _ _ us hl => match us, hl with | [_, _], _ => rfl
theorem Tx.ok_Store_move_of (T : Tx P w K mg base ca) : FnG P w K mg base (L2N.CX P w) 2 T.f_Store_move_of T.d_Store_move_of ["self", "frame"] (spM (C.mk K ca none) 2 m_Store_move_of) := by
  refine fn_okM (c := C.mk K ca none) T.F_Store_move_of sc_Store_move_of fun cdv A outer s H E hr => ?_
  have tk := L2N.takes_of (X := cxOf (L2N.CX P w) P w K mg base N_Store_move_of "Store.move_of" (defScope s_Store_move_of) T.f_Store_move_of cdv A outer s H E) rfl rfl rfl rfl
  exact (ss_cons (s_if (PW.pt (w_or (t_not (t_tru (e_call way_F T.ok_is_whole (hr.less (by decide)) (by rfl) T.g_is_whole T.k_is_whole T.b_is_whole tk (a_cons (e_var 1 (pv 1)) a_nil)))) (w_one2 (t_cmp (op_notInC (hu65 hr)) p_notInC (e_var 1 (pv 1)) (e_fld (cs := [0]) rfl T.fa_own_moves (e_var 0 (pv 0))) (by rfl)))))
  (ss_one s_never)
  ss_nil)
  (ss_one (s_ret (e_ixA (hu_of hr.toRoom) rfl (e_fld (cs := [0]) rfl T.fa_own_moves (e_var 0 (pv 0))) (e_var 1 (pv 1)) (fun _ _ => rfl)))))
theorem Tx.b_Store_finish (T : Tx P w K mg base ca) : Binds K T.d_Store_finish ["self", "move"] [] := T.F_Store_finish.binds fun _ _ _ _ _ _ us hl => match us, hl with | [_, _], _ => rfl
theorem Tx.ok_Store_finish (T : Tx P w K mg base ca) : FnG P w K mg base (L2N.CX P w) 1 T.f_Store_finish T.d_Store_finish ["self", "move"] (spM (C.mk K ca none) 2 m_Store_finish) := by
  refine fn_okM (c := C.mk K ca none) T.F_Store_finish sc_Store_finish fun cdv A outer s H E hr => ?_
  have tk := L2N.takes_of (X := cxOf (L2N.CX P w) P w K mg base N_Store_finish "Store.finish" (defScope s_Store_finish) T.f_Store_finish cdv A outer s H E) rfl rfl rfl rfl
  exact (ss_cons (s_par (i := 2) (j := 3) rfl sc_Store_finish.nd rfl rfl (by decide) rfl rfl (a_cons (e_fld (cs := [1]) rfl T.fa_frame_from (e_var 1 (pv 1))) (a_cons (e_fld (cs := [1]) rfl T.fa_frame_to (e_var 1 (pv 1))) a_nil)))
  (ss_cons (s_expr (e_dpop1 (e_fld (cs := [0]) rfl T.fa_own_moves (e_var 0 (pv 0))) (e_var 2 (pv 2)) ⟨rfl, rfl, rfl, rfl⟩))
  (ss_cons (s_setC (hu_of hr.toRoom) (e_dpop1 (e_fld (cs := [0]) rfl T.fa_worths (e_var 0 (pv 0))) (e_var 2 (pv 2)) ⟨rfl, rfl, rfl, rfl⟩) (e_fld (cs := [0]) rfl T.fa_worths (e_var 0 (pv 0))) (e_var 3 (pv 3)))
  (ss_cons (s_setC (hu_of hr.toRoom) (e_dpop1 (e_fld (cs := [0]) rfl T.fa_spots (e_var 0 (pv 0))) (e_var 2 (pv 2)) ⟨rfl, rfl, rfl, rfl⟩) (e_fld (cs := [0]) rfl T.fa_spots (e_var 0 (pv 0))) (e_var 3 (pv 3)))
  (ss_one (s_lk (m2 mIxA (m1 (mFld [0] (Str.ofString "spots")) (mVar 0)) (mVar 3)) (s_for (passes_of rfl) rfl (i_keysR (e_ixA (hu_of hr.toRoom) rfl (e_fld (cs := [0]) rfl T.fa_spots (e_var 0 (pv 0))) (e_var 3 (pv 3)) (fun _ _ => rfl))) (g_tup rfl rfl (gs_cons (g_name (i := 4) sc_Store_finish.nd rfl (Or.inl rfl)) (gs_cons (g_name (i := 5) sc_Store_finish.nd rfl (Or.inl rfl)) gs_nil))) (ss_cons (s_asg (e_ixA (hu_of hr.toRoom) rfl (e_ixA (hu_of hr.toRoom) rfl (e_fld (cs := [0]) rfl T.fa_tables (e_var 0 (pv 0))) (e_var 4 (pv 4)) (fun _ _ => rfl)) (e_var 5 (pv 5)) (fun _ _ => rfl)) (g_tup rfl rfl (gs_cons (g_name (i := 6) sc_Store_finish.nd rfl (Or.inl rfl)) (gs_cons (g_name (i := 7) sc_Store_finish.nd rfl (Or.inl rfl)) (gs_cons (g_name (i := 8) sc_Store_finish.nd rfl (Or.inl rfl)) gs_nil)))))
  (ss_one (s_setC (hu_of hr.toRoom) (e_tup (a_cons (e_var 3 (pv 3)) (a_cons (e_var 7 (pv 7)) (a_cons (e_c pe_bl rbl) a_nil)))) (e_ixA (hu_of hr.toRoom) rfl (e_fld (cs := [0]) rfl T.fa_tables (e_var 0 (pv 0))) (e_var 4 (pv 4)) (fun _ _ => rfl)) (e_var 5 (pv 5))))))))))))
theorem Tx.b_Store_step (T : Tx P w K mg base ca) : Binds K T.d_Store_step ["self", "frame"] [] := T.F_Store_step.binds fun _ _ _ _ _ _ us hl => match us, hl with | [_, _], _ => rfl
theorem Tx.ok_Store_step (T : Tx P w K mg base ca) : FnG P w K mg base (L2N.CX P w) 3 T.f_Store_step T.d_Store_step ["self", "frame"] (spM (C.mk K ca none) 2 m_Store_step) := by
  refine fn_okM (c := C.mk K ca none) T.F_Store_step sc_Store_step fun cdv A outer s H E hr => ?_
  have tk := L2N.takes_of (X := cxOf (L2N.CX P w) P w K mg base N_Store_step "Store.step" (defScope s_Store_step) T.f_Store_step cdv A outer s H E) rfl rfl rfl rfl
  exact (ss_cons (s_set (i := 2) sc_Store_step.nd rfl (Or.inr rfl) (e_meth (j := 0) (dm := []) way_F rfl T.cls_Store T.M_Store_move_of T.ok_Store_move_of (hr.less (by decide)) T.b_Store_move_of .nil (fun _ _ _ => .nil) tk (e_var 0 (pv 0)) (a_cons (e_var 1 (pv 1)) a_nil)))
  (ss_cons (s_if (t_not (t_tru (e_fld (cs := [1]) rfl T.fa_has_copied (e_var 2 (pv 2)))))
  (ss_cons (s_fld (cs := [1]) rfl T.fa_has_copied (e_c pe_bl rbl) (e_var 2 (pv 2)))
  (ss_one (s_ret (e_tup (a_cons (e_c pe_str rstr) a_nil)))))
  ss_nil)
  (ss_cons (s_setLc (i := 3) (own := [("spot", 4)]) finV fin_V rfl sc_Store_step.nd rfl rfl (sw_true rfl rfl rfl (by decide +kernel))  (i_list rfl (e_builtin (cr_srt rfl (hu65 hr)) (p_srt finN_V) (by rfl) T.z_sorted (by decide +kernel) (a_cons (e_ixA (hu_of hr.toRoom) rfl (e_fld (cs := [0]) rfl T.fa_spots (e_var 0 (pv 0))) (e_var 1 (pv 1)) (fun _ _ => rfl)) a_nil))) (blkOk_by (own := [("spot", 4)]) (N := N_Store_step) (sc := defScope s_Store_step) (by decide +kernel)) (rd_name (by decide)) (fun _ _ _ _ _ => (pg_name (i := 4) sc_Store_step.nd rfl (Or.inl rfl))) (fun _ _ _ _ _ => (pts1 (t_cmp (op_notInC (hu65 hr)) p_notInC (e_var 4 (pv 4)) (e_fld (cs := [1]) rfl T.fa_right_ones (e_var 2 (pv 2))) (by rfl)))) (fun _ _ _ _ _ => (e_var 4 (pv 4))))
  (ss_cons (s_if (t_cmp (op_neX (hu65 hr)) p_neX (e_var 3 (pv 3)) (e_lv a_nil) (nomark _))
  (ss_cons (s_setC (hu_of hr.toRoom) (e_c pe_bl rbl) (e_fld (cs := [1]) rfl T.fa_right_ones (e_var 2 (pv 2))) (e_ixA (hu_of hr.toRoom) rfl (e_var 3 (pv 3)) (e_c pe_int rint) (fun _ _ => rfl)))
  (ss_one (s_ret (e_op op_add4 (p_add finN_V) (e_tup (a_cons (e_c pe_str rstr) a_nil)) (e_ixA (hu_of hr.toRoom) rfl (e_var 3 (pv 3)) (e_c pe_int rint) (fun _ _ => rfl))))))
  ss_nil)
  (ss_cons (s_expr (e_meth (j := 0) (dm := []) way_N rfl T.cls_Store T.M_Store_finish T.ok_Store_finish (hr.less (by decide)) T.b_Store_finish .nil (fun _ _ _ => .nil) tk (e_var 0 (pv 0)) (a_cons (e_var 2 (pv 2)) a_nil)))
  (ss_one (s_ret (e_tup (a_cons (e_c pe_str rstr) a_nil)))))))))
theorem Tx.b_Store_moves (T : Tx P w K mg base ca) : Binds K T.d_Store_moves ["self"] [] := T.F_Store_moves.binds fun _ _ _ _ _ _ us hl => match us, hl with | [_], _ => rfl
theorem Tx.ok_Store_moves (T : Tx P w K mg base ca) : FnG P w K mg base (L2N.CX P w) 2 T.f_Store_moves T.d_Store_moves ["self"] (spM (C.mk K ca none) 1 m_Store_moves) := by
  refine fn_okM (c := C.mk K ca none) T.F_Store_moves sc_Store_moves fun cdv A outer s H E hr => ?_
  have tk := L2N.takes_of (X := cxOf (L2N.CX P w) P w K mg base N_Store_moves "Store.moves" (defScope s_Store_moves) T.f_Store_moves cdv A outer s H E) rfl rfl rfl rfl
  exact (ss_one (s_ret (e_builtin (cr_srt rfl (hu65 hr)) (p_srt finN_R) (by rfl) T.z_sorted (by decide +kernel) (a_cons (e_lk (m1 (mFld [0] (Str.ofString "own_moves")) (mVar 0)) (e_lc (own := [("move", 1)]) finV fin_V rfl sc_Store_moves.nd  (i_valsR (e_fld (cs := [0]) rfl T.fa_own_moves (e_var 0 (pv 0)))) (blkOk_by (own := [("move", 1)]) (N := N_Store_moves) (sc := defScope s_Store_moves) (by decide +kernel)) (rd_name (by decide)) (fun _ _ _ _ _ => (pg_name (i := 1) sc_Store_moves.nd rfl (Or.inl rfl))) (fun _ _ _ _ _ => pts0) (fun _ _ _ _ _ => (e_meth0 (j := 1) (dm := []) way_F rfl T.cls_Move T.M_Move_told T.ok_Move_told (hr.less (by decide)) T.b_Move_told .nil (fun _ _ _ => .nil) takesN0 (e_var 1 (pv 1)))))) a_nil))))
theorem Tx.k_law_pool (T : Tx P w K mg base ca) : PySem.W.keepIn K (.ref T.f_law_pool) = true := T.F_law_pool.kp
theorem Tx.b_law_pool (T : Tx P w K mg base ca) : Binds K T.d_law_pool ["_law_script", "_law_k"] [] := T.F_law_pool.binds fun _ _ _ _ _ _ us hl => match us, hl with | [_, _], _ => rfl
theorem Tx.ok_law_pool (T : Tx P w K mg base ca) : FnG P w K mg base (L2N.CX P w) 1 T.f_law_pool T.d_law_pool ["_law_script", "_law_k"] (spM (C.mk K ca none) 2 m_law_pool) := by
  refine fn_okM (c := C.mk K ca none) T.F_law_pool sc_law_pool fun cdv A outer s H E hr => ?_
  have tk := L2N.takes_of (X := cxOf (L2N.CX P w) P w K mg base N_law_pool "_law_pool" (defScope s_law_pool) T.f_law_pool cdv A outer s H E) rfl rfl rfl rfl
  exact (ss_cons (s_set (i := 2) sc_law_pool.nd rfl (Or.inl rfl) (e_c pe_int rint))
  (ss_cons (s_if (t_cmp op_lt p_lt (e_var 1 (pv 1)) (e_builtin call_lenC p_lenC (by rfl) T.z_len (by decide +kernel) (a_cons (e_var 0 (pv 0)) a_nil)) (nomark _))
  (ss_one (s_set (i := 2) sc_law_pool.nd rfl (Or.inl rfl) (e_ixA (hu_of hr.toRoom) rfl (e_var 0 (pv 0)) (e_var 1 (pv 1)) (fun _ _ => rfl))))
  ss_nil)
  (ss_cons (s_set (i := 3) sc_law_pool.nd rfl (Or.inl rfl) (e_builtin (call_max2 rfl) p_max (by rfl) T.z_max (by decide +kernel) (a_cons (e_var 2 (pv 2)) (a_cons (e_op op_sub p_sub (e_un un_neg p_neg (e_c pe_int rint)) (e_var 2 (pv 2))) a_nil))))
  (ss_cons (s_set (i := 4) sc_law_pool.nd rfl (Or.inl rfl) (e_op op_mod p_mod (e_op op_mulA (p_mulA finN_V) (e_op op_add4 (p_add finN_V) (e_op op_add4 (p_add finN_V) (e_op op_add4 (p_add finN_V) (e_op op_mod p_mod (e_var 3 (pv 3)) (e_c pe_int rint)) (e_op op_mulA (p_mulA finN_V) (e_op op_mulA (p_mulA finN_V) (e_c pe_int rint) (e_var 1 (pv 1))) (e_var 1 (pv 1)))) (e_op op_mulA (p_mulA finN_V) (e_c pe_int rint) (e_var 1 (pv 1)))) (e_c pe_int rint)) (e_c pe_int rint)) (e_c pe_int rint)))
  (ss_one (s_ret (e_lst (a_cons (e_op op_mulA (p_mulA finN_V) (e_var 3 (pv 3)) (e_builtinTy call_int1 p_int (by rfl) T.z_int (by decide +kernel) (a_cons (e_cmp op_ge p_ge (e_var 3 (pv 3)) (e_op op_pow p_pow (e_c pe_int rint) (e_c pe_int rint)) (nomark _)) a_nil))) (a_cons (e_var 4 (pv 4)) a_nil)))))))))
theorem Tx.k_law_draw (T : Tx P w K mg base ca) : PySem.W.keepIn K (.ref T.f_law_draw) = true := T.F_law_draw.kp
theorem Tx.b_law_draw (T : Tx P w K mg base ca) : Binds K T.d_law_draw ["_law_pool_here", "_law_many"] [] := T.F_law_draw.binds fun _ _ _ _ _ _ us hl => match us, hl with | [_, _], _ => rfl
theorem Tx.ok_law_draw (T : Tx P w K mg base ca) : FnG P w K mg base (L2N.CX P w) 1 T.f_law_draw T.d_law_draw ["_law_pool_here", "_law_many"] (spM (C.mk K ca none) 2 m_law_draw) := by
  refine fn_okM (c := C.mk K ca none) T.F_law_draw sc_law_draw fun cdv A outer s H E hr => ?_
  have tk := L2N.takes_of (X := cxOf (L2N.CX P w) P w K mg base N_law_draw "_law_draw" (defScope s_law_draw) T.f_law_draw cdv A outer s H E) rfl rfl rfl rfl
  exact (ss_cons (s_if (t_cmp op_gt p_gt (e_ixA (hu_of hr.toRoom) rfl (e_var 0 (pv 0)) (e_c pe_int rint) (fun _ _ => rfl)) (e_c pe_int rint) (nomark _))
  (ss_cons (s_set (i := 2) sc_law_draw.nd rfl (Or.inl rfl) (e_op op_mod p_mod (e_ixA (hu_of hr.toRoom) rfl (e_var 0 (pv 0)) (e_c pe_int rint) (fun _ _ => rfl)) (e_var 1 (pv 1))))
  (ss_cons (s_setC (hu_of hr.toRoom) (e_op op_fdiv p_div (e_ixA (hu_of hr.toRoom) rfl (e_var 0 (pv 0)) (e_c pe_int rint) (fun _ _ => rfl)) (e_var 1 (pv 1))) (e_var 0 (pv 0)) (e_c pe_int rint))
  (ss_one (s_ret (e_var 2 (pv 2))))))
  ss_nil)
  (ss_cons (s_setC (hu_of hr.toRoom) (e_op op_mod p_mod (e_op op_add4 (p_add finN_V) (e_op op_mulA (p_mulA finN_V) (e_ixA (hu_of hr.toRoom) rfl (e_var 0 (pv 0)) (e_c pe_int rint) (fun _ _ => rfl)) (e_c pe_int rint)) (e_c pe_int rint)) (e_c pe_int rint)) (e_var 0 (pv 0)) (e_c pe_int rint))
  (ss_one (s_ret (e_op op_mod p_mod (e_op op_fdiv p_div (e_op op_mod p_mod (e_op op_mulA (p_mulA finN_V) (e_ixA (hu_of hr.toRoom) rfl (e_var 0 (pv 0)) (e_c pe_int rint) (fun _ _ => rfl)) (e_ixA (hu_of hr.toRoom) rfl (e_var 0 (pv 0)) (e_c pe_int rint) (fun _ _ => rfl))) (e_c pe_int rint)) (e_c pe_int rint)) (e_var 1 (pv 1)))))))
theorem Tx.k_law_made (T : Tx P w K mg base ca) : PySem.W.keepIn K (.ref T.f_law_made) = true := T.F_law_made.kp
theorem Tx.b_law_made (T : Tx P w K mg base ca) : Binds K T.d_law_made ["_law_pool_here"] [] := T.F_law_made.binds fun _ _ _ _ _ _ us hl => match us, hl with | [_], _ => rfl
theorem Tx.ok_law_made (T : Tx P w K mg base ca) : FnG P w K mg base (L2N.CX P w) 10 T.f_law_made T.d_law_made ["_law_pool_here"] (spM (C.mk K ca none) 1 m_law_made) := by
  refine fn_okM (c := C.mk K ca none) T.F_law_made sc_law_made fun cdv A outer s H E hr => ?_
  have tk := L2N.takes_of (X := cxOf (L2N.CX P w) P w K mg base N_law_made "_law_made" (defScope s_law_made) T.f_law_made cdv A outer s H E) rfl rfl rfl rfl
  exact (ss_cons (s_set (i := 1) sc_law_made.nd rfl (Or.inl rfl) (e_make (j := 0) rfl T.Mk_Store T.ok_Store___init__ (hr.less (by decide)) (by rfl) T.gC_Store T.b_Store___init__ tk (a_cons (e_c pe_int rint) a_nil)))
  (ss_cons (s_expr (e_meth (j := 0) (dm := []) way_N rfl T.cls_Store T.M_Store_come T.ok_Store_come (hr.less (by decide)) T.b_Store_come .nil (fun _ _ _ => .nil) tk (e_var 1 (pv 1)) (a_cons (e_c pe_str rstr) a_nil)))
  (ss_cons (s_expr (e_meth (j := 0) (dm := []) way_N rfl T.cls_Store T.M_Store_come T.ok_Store_come (hr.less (by decide)) T.b_Store_come .nil (fun _ _ _ => .nil) tk (e_var 1 (pv 1)) (a_cons (e_c pe_str rstr) a_nil)))
  (ss_cons (s_for (passes_of rfl) rfl (i_range1 (by rfl) T.z_range (a_cons (e_call way_F T.ok_law_draw (hr.less (by decide)) (by rfl) T.g_law_draw T.k_law_draw T.b_law_draw tk (a_cons (e_var 0 (pv 0)) (a_cons (e_c pe_int rint) a_nil))) a_nil)) (g_name (i := 2) sc_law_made.nd rfl (Or.inl rfl)) (ss_one (s_expr (e_meth (j := 0) (dm := [.str (Str.ofString "write")]) way_N rfl T.cls_Store T.M_Store_give T.ok_Store_give (hr.less (by decide)) T.bd_Store_give.choose_spec.2 T.bd_Store_give.choose_spec.1 (fun _ _ _ => .cons (rstr _ _ _) (.nil)) tk (e_var 1 (pv 1)) (a_cons (e_c pe_str rstr) (a_cons (e_op op_add4 (p_add finN_V) (e_c pe_int rint) (e_var 2 (pv 2))) (a_cons (e_var 2 (pv 2)) a_nil)))))))
  (ss_cons (s_expr (e_meth (j := 0) (dm := [.str (Str.ofString "write")]) way_N rfl T.cls_Store T.M_Store_give T.ok_Store_give (hr.less (by decide)) T.bd_Store_give.choose_spec.2 T.bd_Store_give.choose_spec.1 (fun _ _ _ => .cons (rstr _ _ _) (.nil)) tk (e_var 1 (pv 1)) (a_cons (e_c pe_str rstr) (a_cons (e_c pe_int rint) (a_cons (e_c pe_int rint) a_nil)))))
  (ss_cons (s_set (i := 3) sc_law_made.nd rfl (Or.inl rfl) (e_lst (a_cons (e_tup (a_cons (e_c pe_str rstr) (a_cons (e_c pe_int rint) a_nil))) a_nil)))
  (ss_cons (s_for (passes_of rfl) rfl (i_range1 (by rfl) T.z_range (a_cons (e_call way_F T.ok_law_draw (hr.less (by decide)) (by rfl) T.g_law_draw T.k_law_draw T.b_law_draw tk (a_cons (e_var 0 (pv 0)) (a_cons (e_c pe_int rint) a_nil))) a_nil)) (g_name (i := 2) sc_law_made.nd rfl (Or.inl rfl)) (ss_cons (s_set (i := 4) sc_law_made.nd rfl (Or.inl rfl) (e_tup (a_cons (e_ixA (hu_of hr.toRoom) rfl (e_lv (a_cons (e_c pe_str rstr) (a_cons (e_c pe_str rstr) a_nil))) (e_call way_F T.ok_law_draw (hr.less (by decide)) (by rfl) T.g_law_draw T.k_law_draw T.b_law_draw tk (a_cons (e_var 0 (pv 0)) (a_cons (e_c pe_int rint) a_nil))) (fun _ _ => rfl)) (a_cons (e_op op_add4 (p_add finN_V) (e_c pe_int rint) (e_var 2 (pv 2))) a_nil))))
  (ss_cons (s_expr (e_meth (j := 0) (dm := []) way_N rfl T.cls_Store T.M_Store_share T.ok_Store_share (hr.less (by decide)) T.b_Store_share .nil (fun _ _ _ => .nil) tk (e_var 1 (pv 1)) (a_cons (e_c pe_str rstr) (a_cons (e_c pe_int rint) (a_cons (e_ixA (hu_of hr.toRoom) rfl (e_var 4 (pv 4)) (e_c pe_int rint) (fun _ _ => rfl)) (a_cons (e_ixA (hu_of hr.toRoom) rfl (e_var 4 (pv 4)) (e_c pe_int rint) (fun _ _ => rfl)) a_nil))))))
  (ss_one (s_expr (e_methL rfl PySem.F.slot_list_append PySem.F.type_list_append mt_append p_append (e_var 3 (pv 3)) (a_cons (e_var 4 (pv 4)) a_nil)))))))
  (ss_one (s_ret (e_tup (a_cons (e_var 1 (pv 1)) (a_cons (e_builtin (cr_srt rfl (hu65 hr)) (p_srt finN_V) (by rfl) T.z_sorted (by decide +kernel) (a_cons (e_var 3 (pv 3)) a_nil)) a_nil))))))))))))
theorem Tx.k_law_entries (T : Tx P w K mg base ca) : PySem.W.keepIn K (.ref T.f_law_entries) = true := T.F_law_entries.kp
theorem Tx.b_law_entries (T : Tx P w K mg base ca) : Binds K T.d_law_entries ["_law_store", "_law_spots"] [] := T.F_law_entries.binds fun _ _ _ _ _ _ us hl => match us, hl with | [_, _], _ => rfl
theorem Tx.ok_law_entries (T : Tx P w K mg base ca) : FnG P w K mg base (L2N.CX P w) 3 T.f_law_entries T.d_law_entries ["_law_store", "_law_spots"] (spM (C.mk K ca none) 2 m_law_entries) := by
  refine fn_okM (c := C.mk K ca none) T.F_law_entries sc_law_entries fun cdv A outer s H E hr => ?_
  have tk := L2N.takes_of (X := cxOf (L2N.CX P w) P w K mg base N_law_entries "_law_entries" (defScope s_law_entries) T.f_law_entries cdv A outer s H E) rfl rfl rfl rfl
  exact (ss_one (s_ret (e_lc (own := [("_law_word", 2), ("_law_address", 3)]) finR fin_R rfl sc_law_entries.nd  (i_list rfl (e_var 1 (pv 1))) (blkOk_by (own := [("_law_word", 2), ("_law_address", 3)]) (N := N_law_entries) (sc := defScope s_law_entries) (by decide +kernel)) (rd_tup rfl rfl (rds_cons (rd_name (by decide)) (rds_cons (rd_name (by decide)) rds_nil))) (fun _ _ _ _ _ => (pg_tup rfl (pgs_cons (pg_name (i := 2) sc_law_entries.nd rfl (Or.inl rfl)) (pgs_cons (pg_name (i := 3) sc_law_entries.nd rfl (Or.inl rfl)) pgs_nil)))) (fun _ _ _ _ _ => pts0) (fun _ _ _ _ _ => (e_ixA (hu_of hr.toRoom) rfl (e_meth (j := 0) (dm := []) way_F rfl T.cls_Store T.M_Store_table T.ok_Store_table (hr.less (by decide)) T.b_Store_table .nil (fun _ _ _ => .nil) takesN0 (e_var 0 (pv 0)) (a_cons (e_var 2 (pv 2)) a_nil)) (e_var 3 (pv 3)) (fun _ _ => rfl))))))
theorem Tx.k_law_begun_beside (T : Tx P w K mg base ca) : PySem.W.keepIn K (.ref T.f_law_begun_beside) = true := T.F_law_begun_beside.kp
theorem Tx.b_law_begun_beside (T : Tx P w K mg base ca) : Binds K T.d_law_begun_beside ["_law_store", "_law_to"] [] := T.F_law_begun_beside.binds fun _ _ _ _ _ _ us hl => match us, hl with | [_, _], _ => rfl
theorem Tx.ok_law_begun_beside (T : Tx P w K mg base ca) : FnG P w K mg base (L2N.CX P w) 6 T.f_law_begun_beside T.d_law_begun_beside ["_law_store", "_law_to"] (spM (C.mk K ca none) 2 m_law_begun_beside) := by
  refine fn_okM (c := C.mk K ca none) T.F_law_begun_beside sc_law_begun_beside fun cdv A outer s H E hr => ?_
  have tk := L2N.takes_of (X := cxOf (L2N.CX P w) P w K mg base N_law_begun_beside "_law_begun_beside" (defScope s_law_begun_beside) T.f_law_begun_beside cdv A outer s H E) rfl rfl rfl rfl
  exact (ss_cons (s_if (t_cmp (op_notInC (hu65 hr)) p_notInC (e_c pe_int rint) (e_meth (j := 0) (dm := []) way_F rfl T.cls_Store T.M_Store_table T.ok_Store_table (hr.less (by decide)) T.b_Store_table .nil (fun _ _ _ => .nil) tk (e_var 0 (pv 0)) (a_cons (e_c pe_str rstr) a_nil)) (by rfl))
  (ss_one (s_ret (e_lv a_nil)))
  ss_nil)
  (ss_cons (s_set (i := 2) sc_law_begun_beside.nd rfl (Or.inl rfl) (e_ixA (hu_of hr.toRoom) rfl (e_ixA (hu_of hr.toRoom) rfl (e_meth (j := 0) (dm := []) way_F rfl T.cls_Store T.M_Store_table T.ok_Store_table (hr.less (by decide)) T.b_Store_table .nil (fun _ _ _ => .nil) tk (e_var 0 (pv 0)) (a_cons (e_c pe_str rstr) a_nil)) (e_c pe_int rint) (fun _ _ => rfl)) (e_c pe_int rint) (fun _ _ => rfl)))
  (ss_cons (s_set (i := 3) sc_law_begun_beside.nd rfl (Or.inl rfl) (e_ixA (hu_of hr.toRoom) rfl (e_lc (own := [("_law_one", 4)]) finV fin_V rfl sc_law_begun_beside.nd  (i_list rfl (e_meth0 (j := 0) (dm := []) way_F rfl T.cls_Store T.M_Store_free T.ok_Store_free (hr.less (by decide)) T.b_Store_free .nil (fun _ _ _ => .nil) tk (e_var 0 (pv 0)))) (blkOk_by (own := [("_law_one", 4)]) (N := N_law_begun_beside) (sc := defScope s_law_begun_beside) (by decide +kernel)) (rd_name (by decide)) (fun _ _ _ _ _ => (pg_name (i := 4) sc_law_begun_beside.nd rfl (Or.inl rfl))) (fun _ _ _ _ _ => (pts1 (t_cmp (op_neX (hu65 hr)) p_neX (e_var 4 (pv 4)) (e_var 1 (pv 1)) (nomark _)))) (fun _ _ _ _ _ => (e_var 4 (pv 4)))) (e_c pe_int rint) (fun _ _ => rfl)))
  (ss_cons (s_expr (e_meth (j := 0) (dm := []) way_N rfl T.cls_Store T.M_Store_begin T.ok_Store_begin (hr.less (by decide)) T.b_Store_begin .nil (fun _ _ _ => .nil) tk (e_var 0 (pv 0)) (a_cons (e_var 2 (pv 2)) (a_cons (e_var 3 (pv 3)) a_nil))))
  (ss_cons (s_expr (e_meth (j := 0) (dm := []) way_N rfl T.cls_Store T.M_Store_step T.ok_Store_step (hr.less (by decide)) T.b_Store_step .nil (fun _ _ _ => .nil) tk (e_var 0 (pv 0)) (a_cons (e_var 2 (pv 2)) a_nil)))
  (ss_one (s_ret (e_lv (a_cons (e_tup (a_cons (e_var 2 (pv 2)) (a_cons (e_var 3 (pv 3)) (a_cons (e_c pe_bl rbl) (a_cons (e_c pe_int rint) a_nil))))) a_nil)))))))))
theorem Tx.k_law_right (T : Tx P w K mg base ca) : PySem.W.keepIn K (.ref T.f_law_right) = true := T.F_law_right.kp
theorem Tx.b_law_right (T : Tx P w K mg base ca) : Binds K T.d_law_right ["_law_pool_here"] [] := T.F_law_right.binds fun _ _ _ _ _ _ us hl => match us, hl with | [_], _ => rfl
theorem Tx.ok_law_right (T : Tx P w K mg base ca) : FnG P w K mg base (L2N.CX P w) 11 T.f_law_right T.d_law_right ["_law_pool_here"] (spM (C.mk K ca none) 1 m_law_right) := by
  refine fn_okM (c := C.mk K ca none) T.F_law_right sc_law_right fun cdv A outer s H E hr => ?_
  have tk := L2N.takes_of (X := cxOf (L2N.CX P w) P w K mg base N_law_right "_law_right" (defScope s_law_right) T.f_law_right cdv A outer s H E) rfl rfl rfl rfl
  exact (ss_cons (s_asg (e_call way_N T.ok_law_made (hr.less (by decide)) (by rfl) T.g_law_made T.k_law_made T.b_law_made tk (a_cons (e_var 0 (pv 0)) a_nil)) (g_tup rfl rfl (gs_cons (g_name (i := 1) sc_law_right.nd rfl (Or.inr rfl)) (gs_cons (g_name (i := 2) sc_law_right.nd rfl (Or.inl rfl)) gs_nil))))
  (ss_cons (s_set (i := 3) sc_law_right.nd rfl (Or.inr rfl) (e_ixA (hu_of hr.toRoom) rfl (e_ixA (hu_of hr.toRoom) rfl (e_meth (j := 0) (dm := []) way_F rfl T.cls_Store T.M_Store_table T.ok_Store_table (hr.less (by decide)) T.b_Store_table .nil (fun _ _ _ => .nil) tk (e_var 1 (pv 1)) (a_cons (e_c pe_str rstr) a_nil)) (e_c pe_int rint) (fun _ _ => rfl)) (e_c pe_int rint) (fun _ _ => rfl)))
  (ss_cons (s_set (i := 4) sc_law_right.nd rfl (Or.inl rfl) (e_meth0 (j := 0) (dm := []) way_F rfl T.cls_Store T.M_Store_free T.ok_Store_free (hr.less (by decide)) T.b_Store_free .nil (fun _ _ _ => .nil) tk (e_var 1 (pv 1))))
  (ss_cons (s_set (i := 5) sc_law_right.nd rfl (Or.inr rfl) (e_ixA (hu_of hr.toRoom) rfl (e_var 4 (pv 4)) (e_call way_F T.ok_law_draw (hr.less (by decide)) (by rfl) T.g_law_draw T.k_law_draw T.b_law_draw tk (a_cons (e_var 0 (pv 0)) (a_cons (e_builtin call_lenC p_lenC (by rfl) T.z_len (by decide +kernel) (a_cons (e_var 4 (pv 4)) a_nil)) a_nil))) (fun _ _ => rfl)))
  (ss_cons (s_set (i := 6) sc_law_right.nd rfl (Or.inl rfl) (e_call way_N T.ok_law_begun_beside (hr.less (by decide)) (by rfl) T.g_law_begun_beside T.k_law_begun_beside T.b_law_begun_beside tk (a_cons (e_var 1 (pv 1)) (a_cons (e_var 5 (pv 5)) a_nil))))
  (ss_cons (s_setLc (i := 7) (own := [("_law_one", 12)]) finV fin_V rfl sc_law_right.nd rfl rfl (sw_true rfl rfl rfl (by decide +kernel))  (i_range1 (by rfl) T.z_range (a_cons (e_c pe_int rint) a_nil)) (blkOk_by (own := [("_law_one", 12)]) (N := N_law_right) (sc := defScope s_law_right) (by decide +kernel)) (rd_name (by decide)) (fun _ _ _ _ _ => (pg_name (i := 12) sc_law_right.nd rfl (Or.inl rfl))) (fun _ _ _ _ _ => (pts1 (t_cmp (op_notInC (hu65 hr)) p_notInC (e_var 12 (pv 12)) (e_lv (a_cons (e_var 3 (pv 3)) (a_cons (e_var 5 (pv 5)) a_nil))) (by rfl)))) (fun _ _ _ _ _ => (e_meth (j := 0) (dm := []) way_F rfl T.cls_Store T.M_Store_what T.ok_Store_what (hr.less (by decide)) T.b_Store_what .nil (fun _ _ _ => .nil) takesN0 (e_var 1 (pv 1)) (a_cons (e_var 12 (pv 12)) a_nil))))
  (ss_cons (s_expr (e_meth (j := 0) (dm := []) way_N rfl T.cls_Store T.M_Store_begin T.ok_Store_begin (hr.less (by decide)) T.b_Store_begin .nil (fun _ _ _ => .nil) tk (e_var 1 (pv 1)) (a_cons (e_var 3 (pv 3)) (a_cons (e_var 5 (pv 5)) a_nil))))
  (ss_cons (s_set (i := 8) sc_law_right.nd rfl (Or.inl rfl) (e_op op_add4 (p_add finN_V) (e_op op_add4 (p_add finN_V) (e_lv (a_cons (e_tup (a_cons (e_c pe_str rstr) a_nil)) a_nil)) (e_lc (own := [("_law_spot", 13)]) finV fin_V rfl sc_law_right.nd  (i_list rfl (e_var 2 (pv 2))) (blkOk_by (own := [("_law_spot", 13)]) (N := N_law_right) (sc := defScope s_law_right) (by decide +kernel)) (rd_name (by decide)) (fun _ _ _ _ _ => (pg_name (i := 13) sc_law_right.nd rfl (Or.inl rfl))) (fun _ _ _ _ _ => pts0) (fun _ _ _ _ _ => (e_op op_add4 (p_add finN_V) (e_tup (a_cons (e_c pe_str rstr) a_nil)) (e_var 13 (pv 13)))))) (e_lv (a_cons (e_tup (a_cons (e_c pe_str rstr) a_nil)) a_nil))))
  (ss_cons (s_for (passes_of rfl) rfl (i_range1 (by rfl) T.z_range (a_cons (e_builtin call_lenC p_lenC (by rfl) T.z_len (by decide +kernel) (a_cons (e_var 8 (pv 8)) a_nil)) a_nil)) (g_name (i := 9) sc_law_right.nd rfl (Or.inl rfl)) (ss_cons (s_set (i := 10) sc_law_right.nd rfl (Or.inl rfl) (e_builtin (call_max2 rfl) p_max (by rfl) T.z_max (by decide +kernel) (a_cons (e_c pe_int rint) (a_cons (e_op op_sub p_sub (e_var 9 (pv 9)) (e_c pe_int rint)) a_nil))))
  (ss_cons (s_if (PW.pt (w_or (t_cmp (op_neXT (hu67 hr)) p_neXT (e_meth0 (j := 0) (dm := []) way_F rfl T.cls_Store T.M_Store_moves T.ok_Store_moves (hr.less (by decide)) T.b_Store_moves .nil (fun _ _ _ => .nil) tk (e_var 1 (pv 1))) (e_builtin (cr_srt rfl (hu65 hr)) (p_srt finN_V) (by rfl) T.z_sorted (by decide +kernel) (a_cons (e_op op_add4 (p_add finN_V) (e_lv (a_cons (e_tup (a_cons (e_var 3 (pv 3)) (a_cons (e_var 5 (pv 5)) (a_cons (e_cmp op_gt p_gt (e_var 9 (pv 9)) (e_c pe_int rint) (nomark _)) (a_cons (e_var 10 (pv 10)) a_nil))))) a_nil)) (e_var 6 (pv 6))) a_nil)) (nomark _)) (w_one2 (t_cmp (op_neXT (hu67 hr)) p_neXT (e_meth (j := 0) (dm := []) way_F rfl T.cls_Store T.M_Store_what T.ok_Store_what (hr.less (by decide)) T.b_Store_what .nil (fun _ _ _ => .nil) tk (e_var 1 (pv 1)) (a_cons (e_var 5 (pv 5)) a_nil)) (e_tup (a_cons (e_c pe_str rstr) (a_cons (e_var 3 (pv 3)) a_nil))) (nomark _)))))
  (ss_one (s_ret (e_c pe_bl rbl)))
  ss_nil)
  (ss_cons (s_if (PW.pt (w_or (t_cmp (op_neXT (hu67 hr)) p_neXT (e_meth (j := 0) (dm := []) way_F rfl T.cls_Store T.M_Store_what T.ok_Store_what (hr.less (by decide)) T.b_Store_what .nil (fun _ _ _ => .nil) tk (e_var 1 (pv 1)) (a_cons (e_var 3 (pv 3)) a_nil)) (e_tup (a_cons (e_c pe_str rstr) (a_cons (e_c pe_int rint) (a_cons (e_tupleOf rfl (by rfl) T.z_tuple (e_var 2 (pv 2))) a_nil)))) (nomark _)) (w_one2 (t_cmp (op_inC (hu65 hr)) p_inC (e_var 5 (pv 5)) (e_meth0 (j := 0) (dm := []) way_F rfl T.cls_Store T.M_Store_free T.ok_Store_free (hr.less (by decide)) T.b_Store_free .nil (fun _ _ _ => .nil) tk (e_var 1 (pv 1))) (by rfl)))))
  (ss_one (s_ret (e_c pe_bl rbl)))
  ss_nil)
  (ss_cons (s_set (i := 11) sc_law_right.nd rfl (Or.inl rfl) (e_op op_add4 (p_add finN_V) (e_op op_mulA (p_mulA finN_V) (e_lv (a_cons (e_tup (a_cons (e_c pe_str rstr) (a_cons (e_var 5 (pv 5)) (a_cons (e_c pe_str rstr) a_nil)))) a_nil)) (e_var 10 (pv 10))) (e_op op_mulA (p_mulA finN_V) (e_lv (a_cons (e_tup (a_cons (e_c pe_str rstr) (a_cons (e_var 3 (pv 3)) (a_cons (e_c pe_str rstr) a_nil)))) a_nil)) (e_op op_sub p_sub (e_builtin call_lenC p_lenC (by rfl) T.z_len (by decide +kernel) (a_cons (e_var 2 (pv 2)) a_nil)) (e_var 10 (pv 10))))))
  (ss_cons (s_if (PW.pt (w_or (t_cmp (op_neXT (hu67 hr)) p_neXT (e_call way_F T.ok_law_entries (hr.less (by decide)) (by rfl) T.g_law_entries T.k_law_entries T.b_law_entries tk (a_cons (e_var 1 (pv 1)) (a_cons (e_var 2 (pv 2)) a_nil))) (e_var 11 (pv 11)) (nomark _)) (w_one2 (t_cmp (op_neXT (hu67 hr)) p_neXT (e_lc (own := [("_law_one", 12)]) finV fin_V rfl sc_law_right.nd  (i_list rfl (e_var 2 (pv 2))) (blkOk_by (own := [("_law_one", 12)]) (N := N_law_right) (sc := defScope s_law_right) (by decide +kernel)) (rd_name (by decide)) (fun _ _ _ _ _ => (pg_name (i := 12) sc_law_right.nd rfl (Or.inl rfl))) (fun _ _ _ _ _ => pts0) (fun _ _ _ _ _ => (e_meth (j := 0) (dm := []) way_F rfl T.cls_Store T.M_Store_read T.ok_Store_read (hr.less (by decide)) T.b_Store_read .nil (fun _ _ _ => .nil) takesN0 (e_var 1 (pv 1)) (a_cons (e_ixA (hu_of hr.toRoom) rfl (e_var 12 (pv 12)) (e_c pe_int rint) (fun _ _ => rfl)) (a_cons (e_ixA (hu_of hr.toRoom) rfl (e_var 12 (pv 12)) (e_c pe_int rint) (fun _ _ => rfl)) a_nil))))) (e_op op_mulA (p_mulA finN_V) (e_lv (a_cons (e_c pe_int rint) a_nil)) (e_builtin call_lenC p_lenC (by rfl) T.z_len (by decide +kernel) (a_cons (e_var 2 (pv 2)) a_nil))) (nomark _)))))
  (ss_one (s_ret (e_c pe_bl rbl)))
  ss_nil)
  (ss_one (s_if (t_cmp (op_neXT (hu67 hr)) p_neXT (e_meth (j := 0) (dm := []) way_N rfl T.cls_Store T.M_Store_step T.ok_Store_step (hr.less (by decide)) T.b_Store_step .nil (fun _ _ _ => .nil) tk (e_var 1 (pv 1)) (a_cons (e_var 3 (pv 3)) a_nil)) (e_ixA (hu_of hr.toRoom) rfl (e_var 8 (pv 8)) (e_var 9 (pv 9)) (fun _ _ => rfl)) (nomark _))
  (ss_one (s_ret (e_c pe_bl rbl)))
  ss_nil))))))))
  (ss_cons (s_if (PW.pt (w_or (t_cmp (op_neXT (hu67 hr)) p_neXT (e_meth0 (j := 0) (dm := []) way_F rfl T.cls_Store T.M_Store_moves T.ok_Store_moves (hr.less (by decide)) T.b_Store_moves .nil (fun _ _ _ => .nil) tk (e_var 1 (pv 1))) (e_var 6 (pv 6)) (nomark _)) (w_or (t_cmp (op_neXT (hu67 hr)) p_neXT (e_meth (j := 0) (dm := []) way_F rfl T.cls_Store T.M_Store_what T.ok_Store_what (hr.less (by decide)) T.b_Store_what .nil (fun _ _ _ => .nil) tk (e_var 1 (pv 1)) (a_cons (e_var 3 (pv 3)) a_nil)) (e_tup (a_cons (e_c pe_str rstr) a_nil)) (nomark _)) (w_one2 (t_cmp (op_neXT (hu67 hr)) p_neXT (e_meth (j := 0) (dm := []) way_F rfl T.cls_Store T.M_Store_what T.ok_Store_what (hr.less (by decide)) T.b_Store_what .nil (fun _ _ _ => .nil) tk (e_var 1 (pv 1)) (a_cons (e_var 5 (pv 5)) a_nil)) (e_tup (a_cons (e_c pe_str rstr) (a_cons (e_c pe_int rint) (a_cons (e_tupleOf rfl (by rfl) T.z_tuple (e_var 2 (pv 2))) a_nil)))) (nomark _))))))
  (ss_one (s_ret (e_c pe_bl rbl)))
  ss_nil)
  (ss_cons (s_if (t_cmp (op_neXT (hu67 hr)) p_neXT (e_call way_F T.ok_law_entries (hr.less (by decide)) (by rfl) T.g_law_entries T.k_law_entries T.b_law_entries tk (a_cons (e_var 1 (pv 1)) (a_cons (e_var 2 (pv 2)) a_nil))) (e_op op_mulA (p_mulA finN_V) (e_lv (a_cons (e_tup (a_cons (e_c pe_str rstr) (a_cons (e_var 5 (pv 5)) (a_cons (e_c pe_str rstr) a_nil)))) a_nil)) (e_builtin call_lenC p_lenC (by rfl) T.z_len (by decide +kernel) (a_cons (e_var 2 (pv 2)) a_nil))) (nomark _))
  (ss_one (s_ret (e_c pe_bl rbl)))
  ss_nil)
  (ss_one (s_ret (e_cmp (op_eqXT (hu67 hr)) p_eqXT (e_lc (own := [("_law_one", 12)]) finV fin_V rfl sc_law_right.nd  (i_range1 (by rfl) T.z_range (a_cons (e_c pe_int rint) a_nil)) (blkOk_by (own := [("_law_one", 12)]) (N := N_law_right) (sc := defScope s_law_right) (by decide +kernel)) (rd_name (by decide)) (fun _ _ _ _ _ => (pg_name (i := 12) sc_law_right.nd rfl (Or.inl rfl))) (fun _ _ _ _ _ => (pts1 (t_cmp (op_notInC (hu65 hr)) p_notInC (e_var 12 (pv 12)) (e_lv (a_cons (e_var 3 (pv 3)) (a_cons (e_var 5 (pv 5)) a_nil))) (by rfl)))) (fun _ _ _ _ _ => (e_meth (j := 0) (dm := []) way_F rfl T.cls_Store T.M_Store_what T.ok_Store_what (hr.less (by decide)) T.b_Store_what .nil (fun _ _ _ => .nil) takesN0 (e_var 1 (pv 1)) (a_cons (e_var 12 (pv 12)) a_nil)))) (e_var 7 (pv 7)) (nomark _)))))))))))))))
theorem Tx.ok_law (T : Tx P w K mg base ca) : FnG P w K mg base (L2N.CX P w) 12 T.f_law T.d_law ["_law_script"] (spM (C.mk K ca none) 1 m_law) := by
  refine fn_okM (c := C.mk K ca none) T.F_law sc_law fun cdv A outer s H E hr => ?_
  have tk := L2N.takes_of (X := cxOf (L2N.CX P w) P w K mg base N_law "law" (defScope s_law) T.f_law cdv A outer s H E) rfl rfl rfl rfl
  exact (ss_cons (s_for (passes_of rfl) rfl (i_range1 (by rfl) T.z_range (a_cons (e_builtin (call_max2 rfl) p_max (by rfl) T.z_max (by decide +kernel) (a_cons (e_c pe_int rint) (a_cons (e_builtin (call_min2 rfl) p_min (by rfl) T.z_min (by decide +kernel) (a_cons (e_c pe_int rint) (a_cons (e_builtin call_lenC p_lenC (by rfl) T.z_len (by decide +kernel) (a_cons (e_var 0 (pv 0)) a_nil)) a_nil))) a_nil))) a_nil)) (g_name (i := 1) sc_law.nd rfl (Or.inl rfl)) (ss_gc [1]
  (ss_one (s_if (t_not (t_tru (e_call way_F T.ok_law_right (hr.less (by decide)) (by rfl) T.g_law_right T.k_law_right T.b_law_right tk (a_cons (e_call way_R T.ok_law_pool (hr.less (by decide)) (by rfl) T.g_law_pool T.k_law_pool T.b_law_pool tk (a_cons (e_var 0 (pv 0)) (a_cons (e_var 1 (pv 1)) a_nil))) a_nil))))
  (ss_one (s_ret (e_c pe_bl rbl)))
  ss_nil))))
  (ss_one (s_ret (e_c pe_bl rbl))))
end
end MP
namespace MP
open PySem PySem.Spec PyProof.Rows L2
abbrev RR : PySem.W.OpenRow := PySem.W.OpenLaw.row PySem.Challenge.rw_greatframes_k24_moves_step_by_step
abbrev qv : Program := PySem.W.view RR.prog [55]
noncomputable def ls0 : List Str := ["_wall",
  "NoSize",
  "NoFrame",
  "NoWord",
  "NoAddress",
  "NoWorth",
  "NoRights",
  "NoTenant",
  "NoEntry",
  "NoMove",
  "There",
  "Full",
  "Barred",
  "Pinned",
  "Moving",
  "LOT",
  "MOST_SIZE",
  "is_whole",
  "is_from",
  "is_size",
  "is_frame",
  "look_at_size",
  "MOST_ADDRESS",
  "STRETCH",
  "RIGHTS",
  "is_rights",
  "fits_great",
  "can_be_great",
  "SIGNS",
  "LONGEST"]
noncomputable def ls1 : List Str := ["NO_WORDS",
  "MOST_WORTH",
  "is_word",
  "is_worth",
  "look_at_worth",
  "look_at_address",
  "look_at_rights",
  "for_tenant",
  "for_house",
  "Move",
  "Store",
  "_law_pool",
  "_law_draw",
  "_law_made",
  "_law_entries",
  "_law_begun_beside",
  "_law_right"]
noncomputable def looseM : List Str := ls0 ++ ls1
noncomputable def bs0 (K : PySem.W.Frag) : List Bool := [bFree K "all",
  bFree K "bool",
  bFree K "int",
  bFree K "isinstance",
  bFree K "len",
  bFree K "max",
  bFree K "min",
  bFree K "range",
  bFree K "sorted",
  bFree K "str",
  bFree K "tuple",
  bInt K "LONGEST" (8),
  bInt K "LOT" (8),
  bInt K "MOST_ADDRESS" (31),
  bInt K "MOST_SIZE" (64),
  bInt K "MOST_WORTH" (1000000000),
  bTup K "NO_WORDS" [.str (Str.ofString "house"), .str (Str.ofString "kept")],
  bTup K "RIGHTS" [.str (Str.ofString "read"), .str (Str.ofString "write")],
  bStr K "SIGNS" (Str.ofString "abcdefghijklmnopqrstuvwxyz"),
  bInt K "STRETCH" (4),
  bGlo K "Store",
  bCls K "Store",
  bGlo K "Move",
  bCls K "Move",
  bNo K "Move" (Str.ofString "frame_from")]
noncomputable def bs1 (K : PySem.W.Frag) : List Bool := [bNo K "Move" (Str.ofString "frame_to"),
  bNo K "Move" (Str.ofString "has_copied"),
  bNo K "Store" (Str.ofString "house_frames"),
  bNo K "Store" (Str.ofString "kept_worths"),
  bNo K "Store" (Str.ofString "own_moves"),
  bNo K "Store" (Str.ofString "own_pins"),
  bNo K "Store" (Str.ofString "own_size"),
  bNo K "Move" (Str.ofString "right_ones"),
  bNo K "Store" (Str.ofString "spots"),
  bNo K "Store" (Str.ofString "tables"),
  bNo K "Store" (Str.ofString "worths"),
  bGlo K "is_whole",
  bGlo K "is_from",
  bGlo K "is_size",
  bGlo K "is_frame",
  bGlo K "look_at_size",
  bGlo K "is_rights",
  bGlo K "is_word",
  bGlo K "is_worth",
  bGlo K "look_at_worth",
  bGlo K "look_at_address",
  bGlo K "look_at_rights",
  bGlo K "for_tenant",
  bMk K "Move",
  bMeth K "Move" "told"]
noncomputable def bs2 (K : PySem.W.Frag) : List Bool := [bMk K "Store",
  bMeth K "Store" "held_for",
  bMeth K "Store" "what",
  bMeth K "Store" "table_of",
  bMeth K "Store" "table",
  bMeth K "Store" "free",
  bMeth K "Store" "lots_of_house",
  bMeth K "Store" "free_one",
  bMeth K "Store" "frame_for_tenant",
  bMeth K "Store" "come",
  bMeth K "Store" "entry_at",
  bMeth K "Store" "tie",
  bMeth K "Store" "lay_frame",
  bMeth K "Store" "give",
  bMeth K "Store" "read",
  bMeth K "Store" "part_at",
  bMeth K "Store" "share",
  bMeth K "Store" "begin",
  bMeth K "Store" "move_of",
  bMeth K "Store" "finish",
  bMeth K "Store" "step",
  bMeth K "Store" "moves",
  bGlo K "_law_pool",
  bGlo K "_law_draw",
  bGlo K "_law_made"]
noncomputable def bs3 (K : PySem.W.Frag) : List Bool := [bGlo K "_law_entries",
  bGlo K "_law_begun_beside",
  bGlo K "_law_right",
  bGlo K "law"]
noncomputable def bsM (K : PySem.W.Frag) : List Bool := bs0 K ++ (bs1 K ++ (bs2 K ++ (bs3 K)))
noncomputable def fnm0 : List He.FnD := [fnD ("is_whole", none) "is_whole" "is_whole" s_is_whole,
  fnD ("is_from", none) "is_from" "is_from" s_is_from,
  fnD ("is_size", none) "is_size" "is_size" s_is_size,
  fnD ("is_frame", none) "is_frame" "is_frame" s_is_frame,
  fnD ("look_at_size", none) "look_at_size" "look_at_size" s_look_at_size,
  fnD ("is_rights", none) "is_rights" "is_rights" s_is_rights,
  fnD ("is_word", none) "is_word" "is_word" s_is_word,
  fnD ("is_worth", none) "is_worth" "is_worth" s_is_worth,
  fnD ("look_at_worth", none) "look_at_worth" "look_at_worth" s_look_at_worth,
  fnD ("look_at_address", none) "look_at_address" "look_at_address" s_look_at_address,
  fnD ("look_at_rights", none) "look_at_rights" "look_at_rights" s_look_at_rights,
  fnD ("for_tenant", none) "for_tenant" "for_tenant" s_for_tenant,
  fnD ("Move", some "__init__") "__init__" "Move.__init__" s_Move___init__,
  fnD ("Move", some "told") "told" "Move.told" s_Move_told,
  fnD ("Store", some "__init__") "__init__" "Store.__init__" s_Store___init__,
  fnD ("Store", some "held_for") "held_for" "Store.held_for" s_Store_held_for,
  fnD ("Store", some "what") "what" "Store.what" s_Store_what,
  fnD ("Store", some "table_of") "table_of" "Store.table_of" s_Store_table_of,
  fnD ("Store", some "table") "table" "Store.table" s_Store_table,
  fnD ("Store", some "free") "free" "Store.free" s_Store_free,
  fnD ("Store", some "lots_of_house") "lots_of_house" "Store.lots_of_house" s_Store_lots_of_house,
  fnD ("Store", some "come") "come" "Store.come" s_Store_come,
  fnD ("Store", some "entry_at") "entry_at" "Store.entry_at" s_Store_entry_at,
  fnD ("Store", some "tie") "tie" "Store.tie" s_Store_tie,
  fnD ("Store", some "lay_frame") "lay_frame" "Store.lay_frame" s_Store_lay_frame]
noncomputable def fnm1 : List He.FnD := [fnD ("Store", some "read") "read" "Store.read" s_Store_read,
  fnD ("Store", some "part_at") "part_at" "Store.part_at" s_Store_part_at,
  fnD ("Store", some "share") "share" "Store.share" s_Store_share,
  fnD ("Store", some "begin") "begin" "Store.begin" s_Store_begin,
  fnD ("Store", some "move_of") "move_of" "Store.move_of" s_Store_move_of,
  fnD ("Store", some "finish") "finish" "Store.finish" s_Store_finish,
  fnD ("Store", some "step") "step" "Store.step" s_Store_step,
  fnD ("Store", some "moves") "moves" "Store.moves" s_Store_moves,
  fnD ("_law_pool", none) "_law_pool" "_law_pool" s_law_pool,
  fnD ("_law_draw", none) "_law_draw" "_law_draw" s_law_draw,
  fnD ("_law_made", none) "_law_made" "_law_made" s_law_made,
  fnD ("_law_entries", none) "_law_entries" "_law_entries" s_law_entries,
  fnD ("_law_begun_beside", none) "_law_begun_beside" "_law_begun_beside" s_law_begun_beside,
  fnD ("_law_right", none) "_law_right" "_law_right" s_law_right,
  fnD ("law", none) "law" "law" s_law]
noncomputable def fnM_ : List He.FnD := fnm0 ++ (fnm1)
noncomputable def fwm0 : List He.DefD := [fwD ("Store", some "free_one") "free_one" "Store.free_one" s_Store_free_one [("kept", .bl true)],
  fwD ("Store", some "frame_for_tenant") "frame_for_tenant" "Store.frame_for_tenant" s_Store_frame_for_tenant [("kept", .bl true)],
  fwD ("Store", some "give") "give" "Store.give" s_Store_give [("rights", .str (Str.ofString "write"))]]
noncomputable def fwM_ : List He.DefD := fwm0
noncomputable abbrev hkM : PySem.W.Hook := hookM 4 bsM fnM_ fwM_
noncomputable def obM (s : PySem.W.SharedT) : AlM := obsMG 4 bsM fnM_ fwM_ (HandSHeadRun.getT s)
theorem obM_eq (s : PySem.W.SharedT) : obM s = hkM.obs s.abs := obsMG_eq (HandSHeadRun.getT_eq s)
set_option maxHeartbeats 0 in
theorem runM (w : World) : HandSHeadRun.RunEq RR qv hkM obM 60000 looseM w := by
  intro os
  kernel_rfl
noncomputable def caM (K : PySem.W.Frag) : Nat → Addr := fun n => ([He.ga K "Store", He.ga K "Move", 0, 0] : List Addr).getD n 0
set_option maxHeartbeats 0 in
noncomputable def tx_mk {P : Program} {w : World} {K : PySem.W.Frag} {mg : Str → Option Value} {h : Heap} (X : K.In h) (G : h.Ns mainGlobals mg) (c : SaysM bsM fnM_ fwM_ K) (base : Heap) : Tx P w K mg base (caM K) where
  unit := trivial
  z_all := He.free_ok X G (c.fact 0 rfl)
  z_bool := He.free_ok X G (c.fact 1 rfl)
  z_int := He.free_ok X G (c.fact 2 rfl)
  z_isinstance := He.free_ok X G (c.fact 3 rfl)
  z_len := He.free_ok X G (c.fact 4 rfl)
  z_max := He.free_ok X G (c.fact 5 rfl)
  z_min := He.free_ok X G (c.fact 6 rfl)
  z_range := He.free_ok X G (c.fact 7 rfl)
  z_sorted := He.free_ok X G (c.fact 8 rfl)
  z_str := He.free_ok X G (c.fact 9 rfl)
  z_tuple := He.free_ok X G (c.fact 10 rfl)
  w_LONGEST := .int (8)
  r_LONGEST := rint
  v_LONGEST := (He.int_ok X G (c.fact 11 rfl)).elim fun t e => ⟨_, e, ⟨t, rfl⟩⟩
  w_LOT := .int (8)
  r_LOT := rint
  v_LOT := (He.int_ok X G (c.fact 12 rfl)).elim fun t e => ⟨_, e, ⟨t, rfl⟩⟩
  w_MOST_ADDRESS := .int (31)
  r_MOST_ADDRESS := rint
  v_MOST_ADDRESS := (He.int_ok X G (c.fact 13 rfl)).elim fun t e => ⟨_, e, ⟨t, rfl⟩⟩
  w_MOST_SIZE := .int (64)
  r_MOST_SIZE := rint
  v_MOST_SIZE := (He.int_ok X G (c.fact 14 rfl)).elim fun t e => ⟨_, e, ⟨t, rfl⟩⟩
  w_MOST_WORTH := .int (1000000000)
  r_MOST_WORTH := rint
  v_MOST_WORTH := (He.int_ok X G (c.fact 15 rfl)).elim fun t e => ⟨_, e, ⟨t, rfl⟩⟩
  w_NO_WORDS := .ref (He.ga K "NO_WORDS")
  v_NO_WORDS := ⟨_, bTup_g X G (c.fact 16 rfl), rfl⟩
  r_NO_WORDS := rkt (vs := [V.str (Str.ofString "house"), V.str (Str.ofString "kept")]) (bTup_ok (c.fact 16 rfl)) fun _ _ _ => .cons (rstr _ _ _) (.cons (rstr _ _ _) (.nil))
  w_RIGHTS := .ref (He.ga K "RIGHTS")
  v_RIGHTS := ⟨_, bTup_g X G (c.fact 17 rfl), rfl⟩
  r_RIGHTS := rkt (vs := [V.str (Str.ofString "read"), V.str (Str.ofString "write")]) (bTup_ok (c.fact 17 rfl)) fun _ _ _ => .cons (rstr _ _ _) (.cons (rstr _ _ _) (.nil))
  w_SIGNS := .str (Str.ofString "abcdefghijklmnopqrstuvwxyz")
  r_SIGNS := rstr
  v_SIGNS := (He.str_ok X G (c.fact 18 rfl)).elim fun t e => ⟨_, e, ⟨t, rfl⟩⟩
  w_STRETCH := .int (4)
  r_STRETCH := rint
  v_STRETCH := (He.int_ok X G (c.fact 19 rfl)).elim fun t e => ⟨_, e, ⟨t, rfl⟩⟩
  gC_Store := He.glo_ok X G (c.fact 20 rfl)
  cls_Store := He.cls_ok (c.fact 21 rfl)
  gC_Move := He.glo_ok X G (c.fact 22 rfl)
  cls_Move := He.cls_ok (c.fact 23 rfl)
  na_Move_frame_from := He.noat_ok (c.fact 24 rfl)
  na_Move_frame_to := He.noat_ok (c.fact 25 rfl)
  na_Move_has_copied := He.noat_ok (c.fact 26 rfl)
  na_Store_house_frames := He.noat_ok (c.fact 27 rfl)
  na_Store_kept_worths := He.noat_ok (c.fact 28 rfl)
  na_Store_own_moves := He.noat_ok (c.fact 29 rfl)
  na_Store_own_pins := He.noat_ok (c.fact 30 rfl)
  na_Store_own_size := He.noat_ok (c.fact 31 rfl)
  na_Move_right_ones := He.noat_ok (c.fact 32 rfl)
  na_Store_spots := He.noat_ok (c.fact 33 rfl)
  na_Store_tables := He.noat_ok (c.fact 34 rfl)
  na_Store_worths := He.noat_ok (c.fact 35 rfl)
  f_is_whole := He.fAd K ("is_whole", none)
  d_is_whole := fdAt K (He.fAd K ("is_whole", none))
  F_is_whole := c.fnA 0 (at_ := ("is_whole", none)) rfl
  g_is_whole := He.glo_ok X G (c.fact 36 rfl)
  f_is_from := He.fAd K ("is_from", none)
  d_is_from := fdAt K (He.fAd K ("is_from", none))
  F_is_from := c.fnA 1 (at_ := ("is_from", none)) rfl
  g_is_from := He.glo_ok X G (c.fact 37 rfl)
  f_is_size := He.fAd K ("is_size", none)
  d_is_size := fdAt K (He.fAd K ("is_size", none))
  F_is_size := c.fnA 2 (at_ := ("is_size", none)) rfl
  g_is_size := He.glo_ok X G (c.fact 38 rfl)
  f_is_frame := He.fAd K ("is_frame", none)
  d_is_frame := fdAt K (He.fAd K ("is_frame", none))
  F_is_frame := c.fnA 3 (at_ := ("is_frame", none)) rfl
  g_is_frame := He.glo_ok X G (c.fact 39 rfl)
  f_look_at_size := He.fAd K ("look_at_size", none)
  d_look_at_size := fdAt K (He.fAd K ("look_at_size", none))
  F_look_at_size := c.fnA 4 (at_ := ("look_at_size", none)) rfl
  g_look_at_size := He.glo_ok X G (c.fact 40 rfl)
  f_is_rights := He.fAd K ("is_rights", none)
  d_is_rights := fdAt K (He.fAd K ("is_rights", none))
  F_is_rights := c.fnA 5 (at_ := ("is_rights", none)) rfl
  g_is_rights := He.glo_ok X G (c.fact 41 rfl)
  f_is_word := He.fAd K ("is_word", none)
  d_is_word := fdAt K (He.fAd K ("is_word", none))
  F_is_word := c.fnA 6 (at_ := ("is_word", none)) rfl
  g_is_word := He.glo_ok X G (c.fact 42 rfl)
  f_is_worth := He.fAd K ("is_worth", none)
  d_is_worth := fdAt K (He.fAd K ("is_worth", none))
  F_is_worth := c.fnA 7 (at_ := ("is_worth", none)) rfl
  g_is_worth := He.glo_ok X G (c.fact 43 rfl)
  f_look_at_worth := He.fAd K ("look_at_worth", none)
  d_look_at_worth := fdAt K (He.fAd K ("look_at_worth", none))
  F_look_at_worth := c.fnA 8 (at_ := ("look_at_worth", none)) rfl
  g_look_at_worth := He.glo_ok X G (c.fact 44 rfl)
  f_look_at_address := He.fAd K ("look_at_address", none)
  d_look_at_address := fdAt K (He.fAd K ("look_at_address", none))
  F_look_at_address := c.fnA 9 (at_ := ("look_at_address", none)) rfl
  g_look_at_address := He.glo_ok X G (c.fact 45 rfl)
  f_look_at_rights := He.fAd K ("look_at_rights", none)
  d_look_at_rights := fdAt K (He.fAd K ("look_at_rights", none))
  F_look_at_rights := c.fnA 10 (at_ := ("look_at_rights", none)) rfl
  g_look_at_rights := He.glo_ok X G (c.fact 46 rfl)
  f_for_tenant := He.fAd K ("for_tenant", none)
  d_for_tenant := fdAt K (He.fAd K ("for_tenant", none))
  F_for_tenant := c.fnA 11 (at_ := ("for_tenant", none)) rfl
  g_for_tenant := He.glo_ok X G (c.fact 47 rfl)
  f_Move___init__ := He.fAd K ("Move", some "__init__")
  d_Move___init__ := fdAt K (He.fAd K ("Move", some "__init__"))
  F_Move___init__ := c.fnA 12 (at_ := ("Move", some "__init__")) rfl
  Mk_Move := He.mkr_ok (c.fact 48 rfl)
  f_Move_told := He.fAd K ("Move", some "told")
  d_Move_told := fdAt K (He.fAd K ("Move", some "told"))
  F_Move_told := c.fnA 13 (at_ := ("Move", some "told")) rfl
  M_Move_told := He.meth_ok (c.fact 49 rfl)
  f_Store___init__ := He.fAd K ("Store", some "__init__")
  d_Store___init__ := fdAt K (He.fAd K ("Store", some "__init__"))
  F_Store___init__ := c.fnA 14 (at_ := ("Store", some "__init__")) rfl
  Mk_Store := He.mkr_ok (c.fact 50 rfl)
  f_Store_held_for := He.fAd K ("Store", some "held_for")
  d_Store_held_for := fdAt K (He.fAd K ("Store", some "held_for"))
  F_Store_held_for := c.fnA 15 (at_ := ("Store", some "held_for")) rfl
  M_Store_held_for := He.meth_ok (c.fact 51 rfl)
  f_Store_what := He.fAd K ("Store", some "what")
  d_Store_what := fdAt K (He.fAd K ("Store", some "what"))
  F_Store_what := c.fnA 16 (at_ := ("Store", some "what")) rfl
  M_Store_what := He.meth_ok (c.fact 52 rfl)
  f_Store_table_of := He.fAd K ("Store", some "table_of")
  d_Store_table_of := fdAt K (He.fAd K ("Store", some "table_of"))
  F_Store_table_of := c.fnA 17 (at_ := ("Store", some "table_of")) rfl
  M_Store_table_of := He.meth_ok (c.fact 53 rfl)
  f_Store_table := He.fAd K ("Store", some "table")
  d_Store_table := fdAt K (He.fAd K ("Store", some "table"))
  F_Store_table := c.fnA 18 (at_ := ("Store", some "table")) rfl
  M_Store_table := He.meth_ok (c.fact 54 rfl)
  f_Store_free := He.fAd K ("Store", some "free")
  d_Store_free := fdAt K (He.fAd K ("Store", some "free"))
  F_Store_free := c.fnA 19 (at_ := ("Store", some "free")) rfl
  M_Store_free := He.meth_ok (c.fact 55 rfl)
  f_Store_lots_of_house := He.fAd K ("Store", some "lots_of_house")
  d_Store_lots_of_house := fdAt K (He.fAd K ("Store", some "lots_of_house"))
  F_Store_lots_of_house := c.fnA 20 (at_ := ("Store", some "lots_of_house")) rfl
  M_Store_lots_of_house := He.meth_ok (c.fact 56 rfl)
  f_Store_free_one := He.fAd K ("Store", some "free_one")
  d_Store_free_one := fdAt K (He.fAd K ("Store", some "free_one"))
  FD_Store_free_one := c.fwA 0 (at_ := ("Store", some "free_one")) (kwd := [("kept", .bl true)]) rfl
  M_Store_free_one := He.meth_ok (c.fact 57 rfl)
  f_Store_frame_for_tenant := He.fAd K ("Store", some "frame_for_tenant")
  d_Store_frame_for_tenant := fdAt K (He.fAd K ("Store", some "frame_for_tenant"))
  FD_Store_frame_for_tenant := c.fwA 1 (at_ := ("Store", some "frame_for_tenant")) (kwd := [("kept", .bl true)]) rfl
  M_Store_frame_for_tenant := He.meth_ok (c.fact 58 rfl)
  f_Store_come := He.fAd K ("Store", some "come")
  d_Store_come := fdAt K (He.fAd K ("Store", some "come"))
  F_Store_come := c.fnA 21 (at_ := ("Store", some "come")) rfl
  M_Store_come := He.meth_ok (c.fact 59 rfl)
  f_Store_entry_at := He.fAd K ("Store", some "entry_at")
  d_Store_entry_at := fdAt K (He.fAd K ("Store", some "entry_at"))
  F_Store_entry_at := c.fnA 22 (at_ := ("Store", some "entry_at")) rfl
  M_Store_entry_at := He.meth_ok (c.fact 60 rfl)
  f_Store_tie := He.fAd K ("Store", some "tie")
  d_Store_tie := fdAt K (He.fAd K ("Store", some "tie"))
  F_Store_tie := c.fnA 23 (at_ := ("Store", some "tie")) rfl
  M_Store_tie := He.meth_ok (c.fact 61 rfl)
  f_Store_lay_frame := He.fAd K ("Store", some "lay_frame")
  d_Store_lay_frame := fdAt K (He.fAd K ("Store", some "lay_frame"))
  F_Store_lay_frame := c.fnA 24 (at_ := ("Store", some "lay_frame")) rfl
  M_Store_lay_frame := He.meth_ok (c.fact 62 rfl)
  f_Store_give := He.fAd K ("Store", some "give")
  d_Store_give := fdAt K (He.fAd K ("Store", some "give"))
  FD_Store_give := c.fwA 2 (at_ := ("Store", some "give")) (kwd := [("rights", .str (Str.ofString "write"))]) rfl
  M_Store_give := He.meth_ok (c.fact 63 rfl)
  f_Store_read := He.fAd K ("Store", some "read")
  d_Store_read := fdAt K (He.fAd K ("Store", some "read"))
  F_Store_read := c.fnA 25 (at_ := ("Store", some "read")) rfl
  M_Store_read := He.meth_ok (c.fact 64 rfl)
  f_Store_part_at := He.fAd K ("Store", some "part_at")
  d_Store_part_at := fdAt K (He.fAd K ("Store", some "part_at"))
  F_Store_part_at := c.fnA 26 (at_ := ("Store", some "part_at")) rfl
  M_Store_part_at := He.meth_ok (c.fact 65 rfl)
  f_Store_share := He.fAd K ("Store", some "share")
  d_Store_share := fdAt K (He.fAd K ("Store", some "share"))
  F_Store_share := c.fnA 27 (at_ := ("Store", some "share")) rfl
  M_Store_share := He.meth_ok (c.fact 66 rfl)
  f_Store_begin := He.fAd K ("Store", some "begin")
  d_Store_begin := fdAt K (He.fAd K ("Store", some "begin"))
  F_Store_begin := c.fnA 28 (at_ := ("Store", some "begin")) rfl
  M_Store_begin := He.meth_ok (c.fact 67 rfl)
  f_Store_move_of := He.fAd K ("Store", some "move_of")
  d_Store_move_of := fdAt K (He.fAd K ("Store", some "move_of"))
  F_Store_move_of := c.fnA 29 (at_ := ("Store", some "move_of")) rfl
  M_Store_move_of := He.meth_ok (c.fact 68 rfl)
  f_Store_finish := He.fAd K ("Store", some "finish")
  d_Store_finish := fdAt K (He.fAd K ("Store", some "finish"))
  F_Store_finish := c.fnA 30 (at_ := ("Store", some "finish")) rfl
  M_Store_finish := He.meth_ok (c.fact 69 rfl)
  f_Store_step := He.fAd K ("Store", some "step")
  d_Store_step := fdAt K (He.fAd K ("Store", some "step"))
  F_Store_step := c.fnA 31 (at_ := ("Store", some "step")) rfl
  M_Store_step := He.meth_ok (c.fact 70 rfl)
  f_Store_moves := He.fAd K ("Store", some "moves")
  d_Store_moves := fdAt K (He.fAd K ("Store", some "moves"))
  F_Store_moves := c.fnA 32 (at_ := ("Store", some "moves")) rfl
  M_Store_moves := He.meth_ok (c.fact 71 rfl)
  f_law_pool := He.fAd K ("_law_pool", none)
  d_law_pool := fdAt K (He.fAd K ("_law_pool", none))
  F_law_pool := c.fnA 33 (at_ := ("_law_pool", none)) rfl
  g_law_pool := He.glo_ok X G (c.fact 72 rfl)
  f_law_draw := He.fAd K ("_law_draw", none)
  d_law_draw := fdAt K (He.fAd K ("_law_draw", none))
  F_law_draw := c.fnA 34 (at_ := ("_law_draw", none)) rfl
  g_law_draw := He.glo_ok X G (c.fact 73 rfl)
  f_law_made := He.fAd K ("_law_made", none)
  d_law_made := fdAt K (He.fAd K ("_law_made", none))
  F_law_made := c.fnA 35 (at_ := ("_law_made", none)) rfl
  g_law_made := He.glo_ok X G (c.fact 74 rfl)
  f_law_entries := He.fAd K ("_law_entries", none)
  d_law_entries := fdAt K (He.fAd K ("_law_entries", none))
  F_law_entries := c.fnA 36 (at_ := ("_law_entries", none)) rfl
  g_law_entries := He.glo_ok X G (c.fact 75 rfl)
  f_law_begun_beside := He.fAd K ("_law_begun_beside", none)
  d_law_begun_beside := fdAt K (He.fAd K ("_law_begun_beside", none))
  F_law_begun_beside := c.fnA 37 (at_ := ("_law_begun_beside", none)) rfl
  g_law_begun_beside := He.glo_ok X G (c.fact 76 rfl)
  f_law_right := He.fAd K ("_law_right", none)
  d_law_right := fdAt K (He.fAd K ("_law_right", none))
  F_law_right := c.fnA 38 (at_ := ("_law_right", none)) rfl
  g_law_right := He.glo_ok X G (c.fact 77 rfl)
  f_law := He.fAd K ("law", none)
  d_law := fdAt K (He.fAd K ("law", none))
  F_law := c.fnA 39 (at_ := ("law", none)) rfl
  g_law := He.glo_ok X G (c.fact 78 rfl)
theorem all_mk {P : Program} {w : World} {K : PySem.W.Frag} {mg : Str → Option Value} {fa : Addr} {ca : Nat → Addr} (hfa : mg "law" = some (.ref fa)) (T : ∀ base, Tx P w K mg base ca) (hT : ∀ b b', (T b).f_law = (T b').f_law ∧ (T b).d_law = (T b').d_law) (hl : ∀ ns : List Int, ns.length ≤ 63 → ∃ h', m_law [.fz (ns.map .int)] [] = .ok (.bl true) h') : ∃ fd : FuncData, (∀ (s : Shared) (v : Value), BindsTo s fd ⟨[v], []⟩ [("_law_script", v)]) ∧ ∀ base : Heap, K.In base → base.Ns mainGlobals mg → FnG P w K mg base (L2N.CX P w) 12 fa fd ["_law_script"] (spLaw K) := by
  have e : ∀ b, fa = (T b).f_law := fun b => by
    have := hfa.symm.trans (T b).g_law
    cases this
    rfl
  let b0 : Heap := default
  refine ⟨(T b0).d_law, fun s v => ?_, fun base _ _ => ?_⟩
  · obtain ⟨oc, od, kV, doc, pm, an, cdv, ct, osl, e, lk, hcd⟩ := (T b0).F_law.ex
    rw [e]
    exact .of_eq rfl
  · have h := law_end (c := C.mk K ca none) ((T base).ok_law) hl
    rw [(hT b0 base).2, e base]
    exact h
end MP
namespace MP
open PySem PySem.Spec PyProof.Rows L2
theorem seq_nx {a b : SM} {σ σ1 : Lo} {h h1 : MH} (e : a σ h = .nx σ1 h1) : sSeq a b σ h = b σ1 h1 := by unfold sSeq; rw [e]
theorem fnM_rt {N : Nat} {body : SM} {args : List MV} {h h' : MH} {v : MV} (e : body (args.map some ++ List.replicate (N - args.length) none) h = .rt v h') : fnM N body args h = .ok v h' := by unfold fnM; rw [e]
theorem fnM_nx {N : Nat} {body : SM} {args : List MV} {h h' : MH} {σ : Lo} (q : body (args.map some ++ List.replicate (N - args.length) none) h = .nx σ h') : fnM N body args h = .ok .non h' := by unfold fnM; rw [q]
section
variable {κ α γ : Type} [DecidableEq κ]
noncomputable def aget (k : κ) : List (κ × α) → Option α
  | [] => none
  | (j, v) :: r => if j = k then some v else aget k r
noncomputable def aput (k : κ) (v : α) : List (κ × α) → List (κ × α)
  | [] => [(k, v)]
  | (j, w) :: r => if j = k then (j, v) :: r else (j, w) :: aput k v r
noncomputable def adel (k : κ) : List (κ × α) → List (κ × α)
  | [] => []
  | (j, w) :: r => if j = k then r else (j, w) :: adel k r
noncomputable def nodA : List (κ × α) → Bool
  | [] => true
  | (k, _) :: r => (aget k r).isNone && nodA r
theorem aget_aput (k j : κ) (v : α) : ∀ l : List (κ × α), aget j (aput k v l) = if k = j then some v else aget j l
  | [] => by simp only [aput, aget]
  | (i, w) :: r => by
    unfold aput
    by_cases e : i = k
    · subst e
      simp only [if_true, aget]
      by_cases f : i = j
      · simp only [if_pos f]
      · simp only [if_neg f]
    · simp only [if_neg e, aget, aget_aput k j v r]
      by_cases f : i = j
      · subst f
        simp only [if_true, if_neg (Ne.symm e)]
      · simp only [if_neg f]
theorem aget_mem {k : κ} {v : α} : ∀ {l : List (κ × α)}, aget k l = some v → (k, v) ∈ l
  | [], h => by cases h
  | (i, w) :: r, h => by
    unfold aget at h
    by_cases e : i = k
    · rw [if_pos e] at h; cases h; subst e; exact List.mem_cons_self
    · rw [if_neg e] at h; exact List.mem_cons_of_mem _ (aget_mem h)
theorem aget_of_mem {k : κ} {v : α} : ∀ {l : List (κ × α)}, nodA l = true → (k, v) ∈ l → aget k l = some v
  | [], _, h => by cases h
  | (i, w) :: r, n, h => by
    unfold nodA at n
    rw [Bool.and_eq_true] at n
    unfold aget
    rcases List.mem_cons.mp h with e | m
    · cases e; rw [if_pos rfl]
    · have g := aget_of_mem n.2 m
      by_cases e : i = k
      · subst e; rw [g] at n; exact absurd n.1 (by simp)
      · rw [if_neg e]; exact g
theorem aget_adel (k j : κ) : ∀ {l : List (κ × α)}, nodA l = true → aget j (adel k l) = if k = j then none else aget j l
  | [], _ => by simp [adel, aget]
  | (i, w) :: r, n => by
    unfold nodA at n
    rw [Bool.and_eq_true] at n
    unfold adel
    by_cases e : i = k
    · subst e
      simp only [if_true, aget]
      by_cases f : i = j
      · subst f; rw [if_pos rfl]; exact Option.isNone_iff_eq_none.mp n.1
      · simp only [if_neg f]
    · simp only [if_neg e, aget, aget_adel k j n.2]
      by_cases f : i = j
      · subst f
        simp only [if_true, if_neg (Ne.symm e)]
      · simp only [if_neg f]
theorem nod_aput (k : κ) (v : α) : ∀ {l : List (κ × α)}, nodA l = true → nodA (aput k v l) = true
  | [], _ => rfl
  | (i, w) :: r, n => by
    unfold nodA at n
    rw [Bool.and_eq_true] at n
    unfold aput
    by_cases e : i = k
    · rw [if_pos e, nodA, n.1, n.2]; rfl
    · rw [if_neg e, nodA, aget_aput, if_neg (fun x => e x.symm), n.1, nod_aput k v n.2]; rfl
theorem len_aput (k : κ) (v : α) : ∀ l : List (κ × α), (aput k v l).length ≤ l.length + 1
  | [] => Nat.le_refl _
  | (i, w) :: r => by
    unfold aput
    by_cases e : i = k
    · rw [if_pos e]; exact Nat.le_succ _
    · rw [if_neg e]; exact Nat.succ_le_succ (len_aput k v r)
/-- a dict of the mirror: keys by km, values by f -/
noncomputable def encA (km : κ → MV) (f : κ → α → MV) (l : List (κ × α)) : List (MV × MV) := l.map fun p => (km p.1, f p.1 p.2)
noncomputable def KeyM (km : κ → MV) : Prop := ∀ a b, beqV (km a) (km b) = decide (a = b)
variable {km : κ → MV} {f g : κ → α → MV}
theorem look_enc (hk : KeyM km) (k : κ) : ∀ l : List (κ × α), lookKV (encA km f l) (km k) = (aget k l).map (f k)
  | [] => rfl
  | (i, w) :: r => by
    show lookKV ((km i, f i w) :: encA km f r) (km k) = _
    unfold lookKV aget
    rw [hk i k, look_enc hk k r]
    by_cases e : i = k
    · subst e; simp
    · simp [e]
theorem enc_ext : ∀ {l : List (κ × α)}, (∀ p ∈ l, f p.1 p.2 = g p.1 p.2) → encA km f l = encA km g l
  | [], _ => rfl
  | (i, w) :: r, h => by
    show (km i, f i w) :: encA km f r = (km i, g i w) :: encA km g r
    rw [enc_ext fun p hp => h p (List.mem_cons_of_mem _ hp), h (i, w) List.mem_cons_self]
theorem nokey : ∀ {l : List (κ × α)} {k : κ}, aget k l = none → ∀ p ∈ l, p.1 ≠ k
  | [], _, _, p, hp => by cases hp
  | (i, w) :: r, k, h, p, hp => by
    unfold aget at h
    by_cases e : i = k
    · rw [if_pos e] at h; cases h
    · rw [if_neg e] at h
      rcases List.mem_cons.mp hp with c | m
      · rw [c]; exact e
      · exact nokey h p m
theorem put_enc' (hk : KeyM km) {k : κ} {v : α} {x : MV} (hx : g k v = x) (hg : ∀ j, j ≠ k → ∀ w, f j w = g j w) : ∀ {l : List (κ × α)}, nodA l = true → putKV (encA km f l) (km k) x = encA km g (aput k v l)
  | [], _ => by show [(km k, x)] = [(km k, g k v)]; rw [hx]
  | (i, w) :: r, n => by
    unfold nodA at n
    rw [Bool.and_eq_true] at n
    show putKV ((km i, f i w) :: encA km f r) (km k) x = _
    unfold putKV aput
    rw [hk i k]
    by_cases e : i = k
    · subst e
      rw [decide_eq_true rfl, if_pos rfl, if_pos rfl]
      show _ = (km i, g i v) :: encA km g r
      rw [hx, enc_ext (f := f) (g := g) fun p hp => hg p.1 (nokey (Option.isNone_iff_eq_none.mp n.1) p hp) p.2]
    · rw [decide_eq_false e, if_neg e]
      show (km i, f i w) :: putKV (encA km f r) (km k) x = (km i, g i w) :: encA km g (aput k v r)
      rw [put_enc' hk hx hg n.2, hg i e]
theorem put_enc (hk : KeyM km) {k : κ} {v : α} {x : MV} (hx : f k v = x) {l : List (κ × α)} (n : nodA l = true) : putKV (encA km f l) (km k) x = encA km f (aput k v l) :=
  put_enc' hk hx (fun _ _ _ => rfl) n
theorem drop_enc (hk : KeyM km) (k : κ) : ∀ l : List (κ × α), dropKV (encA km f l) (km k) = encA km f (adel k l)
  | [] => rfl
  | (i, w) :: r => by
    show dropKV ((km i, f i w) :: encA km f r) (km k) = _
    unfold dropKV adel
    rw [hk i k]
    by_cases e : i = k
    · subst e
      rw [decide_eq_true rfl, if_pos rfl, if_pos rfl]
    · rw [decide_eq_false e, if_neg e]
      show (km i, f i w) :: dropKV (encA km f r) (km k) = (km i, f i w) :: encA km f (adel k r)
      rw [drop_enc hk k r]
theorem nod_enc (hk : KeyM km) : ∀ l : List (κ × α), nodK (encA km f l) = nodA l
  | [] => rfl
  | (i, w) :: r => by
    show nodK ((km i, f i w) :: encA km f r) = _
    unfold nodK nodA
    rw [look_enc hk, nod_enc hk r]
    cases aget i r <;> rfl
theorem len_enc (l : List (κ × α)) : (encA km f l).length = l.length := List.length_map _
theorem fst_enc (l : List (κ × α)) : (encA km f l).map (·.1) = l.map fun p => km p.1 := by
  unfold encA; rw [List.map_map]; rfl
theorem snd_enc (l : List (κ × α)) : (encA km f l).map (·.2) = l.map fun p => f p.1 p.2 := by
  unfold encA; rw [List.map_map]; rfl
theorem zip_enc : ∀ l : List (MV × MV), (l.map (·.1)).zip (l.map (·.2)) = l
  | [] => rfl
  | (a, b) :: r => by
    rw [List.map_cons, List.map_cons, List.zip_cons_cons, zip_enc r]
end
theorem keyM_int : KeyM MV.int := fun _ _ => rfl
abbrev Tn := Fin 26
inductive Sw where
  | w (n : Tn) | house | kept | held | tenants | free | small | great | moving | copied | right | done | write | read
  deriving DecidableEq
noncomputable def Sw.str : Sw → Str
  | .w n => ⟨#[97 + n.val]⟩
  | .house => Str.ofString "house"
  | .kept => Str.ofString "kept"
  | .held => Str.ofString "held"
  | .tenants => Str.ofString "tenants"
  | .free => Str.ofString "free"
  | .small => Str.ofString "small"
  | .great => Str.ofString "great"
  | .moving => Str.ofString "moving"
  | .copied => Str.ofString "copied"
  | .right => Str.ofString "right"
  | .done => Str.ofString "done"
  | .write => Str.ofString "write"
  | .read => Str.ofString "read"
theorem Sw.ws {a b : Tn} (h : (Sw.w a).str = (Sw.w b).str) : a = b := by
  have : (97 + a.val) = 97 + b.val := by
    have h2 : (Sw.w a).str.cps.toList = (Sw.w b).str.cps.toList := by rw [h]
    injection h2
  exact Fin.ext (by omega)
theorem Sw.nw {n : Tn} {b : Sw} (hb : b.str.cps.size ≠ 1) (h : (Sw.w n).str = b.str) : False := hb (by rw [← h]; rfl)
theorem Sw.inj : ∀ {a b : Sw}, a.str = b.str → a = b := by
  intro a b h
  cases a <;> cases b <;> first
    | rfl
    | exact congrArg Sw.w (Sw.ws h)
    | exact absurd h (by decide +kernel)
    | exact (Sw.nw (by decide +kernel) h).elim
    | exact (Sw.nw (by decide +kernel) h.symm).elim
theorem Sw.ok : ∀ a : Sw, PyData.strOk a.str = true := by
  intro a
  cases a with
  | w n => revert n; decide +kernel
  | _ => decide +kernel
theorem Sw.beq (a b : Sw) : decide (a.str = b.str) = decide (a = b) := by
  by_cases e : a = b
  · subst e; simp
  · rw [decide_eq_false e, decide_eq_false fun h => e (Sw.inj h)]
inductive Dd where
  | non
  | bl (b : Bool)
  | int (i : Int)
  | st (k : Sw)
  | tup (l : List Dd)
  | li (l : List Dd)
mutual
noncomputable def ddM : Dd → MV
  | .non => .non
  | .bl b => .bl b
  | .int i => .int i
  | .st k => .str k.str
  | .tup l => .tup (ddMs l)
  | .li l => .lv (ddMs l)
noncomputable def ddMs : List Dd → List MV
  | [] => []
  | a :: r => ddM a :: ddMs r
end
mutual
noncomputable def ddP : Dd → PyData
  | .non => .none
  | .bl b => .bool b
  | .int i => .int i
  | .st k => .str k.str
  | .tup l => .tuple (ddPs l)
  | .li l => .list (ddPs l)
noncomputable def ddPs : List Dd → List PyData
  | [] => []
  | a :: r => ddP a :: ddPs r
end
mutual
noncomputable def eqvD : Dd → Dd → Bool
  | .non, .non => true
  | .bl a, .bl b => decide (a = b)
  | .bl a, .int b => decide ((if a = true then 1 else 0) = b)
  | .int a, .bl b => decide (a = (if b = true then 1 else 0))
  | .int a, .int b => decide (a = b)
  | .st a, .st b => decide (a = b)
  | .tup a, .tup b => eqvDs a b
  | .li a, .li b => eqvDs a b
  | _, _ => false
noncomputable def eqvDs : List Dd → List Dd → Bool
  | [], [] => true
  | a :: r, b :: t => eqvD a b && eqvDs r t
  | _, _ => false
end
mutual
noncomputable def depD : Dd → Nat
  | .tup l => 1 + depDs l
  | .li l => 1 + depDs l
  | _ => 0
noncomputable def depDs : List Dd → Nat
  | [] => 0
  | a :: r => max (depD a) (depDs r)
end
theorem ddMs_map : ∀ l, ddMs l = l.map ddM
  | [] => rfl
  | a :: r => by rw [ddMs, ddMs_map r]; rfl
mutual
theorem pure_dd : ∀ x : Dd, pureV (ddM x) = true
  | .non => rfl
  | .bl _ => rfl
  | .int _ => rfl
  | .st _ => rfl
  | .tup l => by rw [ddM, pureV]; exact pures_dd l
  | .li l => by rw [ddM, pureV]; exact pures_dd l
theorem pures_dd : ∀ l : List Dd, pureVs (ddMs l) = true
  | [] => rfl
  | a :: r => by rw [ddMs, pureVs, pure_dd a, pures_dd r]; rfl
end
mutual
theorem toD_dd (h : MH) : ∀ (f : Nat) (x : Dd), depD x < f → toD h f (ddM x) = some (ddP x)
  | 0, _, z => absurd z (Nat.not_lt_zero _)
  | f + 1, .non, _ => rfl
  | f + 1, .bl _, _ => rfl
  | f + 1, .int _, _ => rfl
  | f + 1, .st _, _ => rfl
  | f + 1, .tup l, z => by
    rw [depD] at z
    rw [ddM, toD, ddP]
    simp only [toDs_dd h f l (by omega), Option.map_some]
  | f + 1, .li l, z => by
    rw [depD] at z
    rw [ddM, toD, ddP]
    simp only [toDs_dd h f l (by omega), Option.map_some]
theorem toDs_dd (h : MH) : ∀ (f : Nat) (l : List Dd), depDs l < f → mapO (toD h f) (ddMs l) = some (ddPs l)
  | _, [], _ => rfl
  | f, a :: r, z => by
    rw [depDs] at z
    rw [ddMs, mapO, toD_dd h f a (by omega), toDs_dd h f r (by omega)]; rfl
end
mutual
theorem lay_dd : ∀ x : Dd, PyData.canLay0 (ddP x) = true
  | .non => rfl
  | .bl _ => rfl
  | .int _ => rfl
  | .st k => by rw [ddP, PyData.canLay0]; exact Sw.ok k
  | .tup l => by rw [ddP, PyData.canLay0]; exact lays_dd l
  | .li l => by rw [ddP, PyData.canLay0]; exact lays_dd l
theorem lays_dd : ∀ l : List Dd, PyData.canLayAll0 (ddPs l) = true
  | [] => by simp [ddPs, PyData.canLayAll0]
  | a :: r => by rw [ddPs, PyData.canLayAll0, lay_dd a, lays_dd r]; rfl
end
mutual
theorem dep_dd : ∀ x : Dd, PyData.depth (ddP x) ≤ depD x
  | .non => by simp [ddP, PyData.depth]
  | .bl _ => by simp [ddP, PyData.depth]
  | .int _ => by simp [ddP, PyData.depth]
  | .st k => by simp [ddP, PyData.depth]
  | .tup l => by
    have := deps_dd l
    rw [ddP, PyData.depth, depD]; omega
  | .li l => by
    have := deps_dd l
    rw [ddP, PyData.depth, depD]; omega
theorem deps_dd : ∀ l : List Dd, PyData.depthAll (ddPs l) ≤ depDs l
  | [] => by simp [ddPs, PyData.depthAll]
  | a :: r => by
    have := deps_dd r
    have := dep_dd a
    rw [ddPs, PyData.depthAll, depDs]; omega
end
mutual
theorem eqv_dd : ∀ x y : Dd, PyData.eqv (ddP x) (ddP y) = eqvD x y
  | .non, y => by cases y <;> simp [ddP, PyData.eqv, eqvD]
  | .bl a, y => by cases y <;> cases a <;> simp [ddP, PyData.eqv, eqvD] <;> rfl
  | .int a, y => by cases y <;> simp [ddP, PyData.eqv, eqvD] <;> rfl
  | .st a, y => by
    cases y with
    | st b => rw [ddP, ddP, PyData.eqv, eqvD, ← Sw.beq]; first | rfl | simp
    | _ => simp [ddP, PyData.eqv, eqvD]
  | .tup a, y => by
    cases y with
    | tup b => rw [ddP, ddP, PyData.eqv, eqvD]; exact eqvs_dd a b
    | _ => simp [ddP, PyData.eqv, eqvD]
  | .li a, y => by
    cases y with
    | li b => rw [ddP, ddP, PyData.eqv, eqvD]; exact eqvs_dd a b
    | _ => simp [ddP, PyData.eqv, eqvD]
theorem eqvs_dd : ∀ a b : List Dd, PyData.eqvAll (ddPs a) (ddPs b) = eqvDs a b
  | [], b => by cases b <;> simp [ddPs, PyData.eqvAll, eqvDs]
  | x :: a, b => by
    cases b with
    | nil => simp [ddPs, PyData.eqvAll, eqvDs]
    | cons y b => rw [ddPs, ddPs, PyData.eqvAll, eqvDs, eqv_dd x y, eqvs_dd a b]
end
theorem shp_dd {x : Dd} (d : depD x < 12) : SeqAt.shaped (ddP x) = true := by
  have := dep_dd x
  unfold SeqAt.shaped
  rw [lay_dd, decide_eq_true (by omega)]; rfl
section
variable {x y : Dd} (dx : depD x < 12) (dy : depD y < 12) (h : MH)
include dx dy
theorem eq_dd : mEq (ddM x) (ddM y) h = .ok (.bl (eqvD x y)) h := by
  unfold mEq eqMV
  simp only [toD_dd h 12 x dx, toD_dd h 12 y dy, shp_dd dx, shp_dd dy, Bool.and_self, if_true, eqv_dd]; rfl
theorem ne_dd : mNe (ddM x) (ddM y) h = .ok (.bl (!eqvD x y)) h := by
  unfold mNe eqMV
  simp only [toD_dd h 12 x dx, toD_dd h 12 y dy, shp_dd dx, shp_dd dy, Bool.and_self, if_true, eqv_dd]
theorem eqA_dd : mEqA (ddM x) (ddM y) h = .ok (.bl (eqvD x y)) h := mEqA_ok (eq_dd dx dy h)
theorem neA_dd : mNeA (ddM x) (ddM y) h = .ok (.bl (!eqvD x y)) h := mNeA_ok (ne_dd dx dy h)
theorem eqB_dd : mEqB (ddM x) (ddM y) h = .ok (.bl (eqvD x y)) h := by unfold mEqB; rw [eqA_dd dx dy]; rfl
theorem neB_dd : mNeB (ddM x) (ddM y) h = .ok (.bl (!eqvD x y)) h := by unfold mNeB; rw [neA_dd dx dy]; rfl
end
theorem inD_dd (neg : Bool) {x : Dd} {l : List Dd} (dx : depD x < 12) (dl : depD (.li l) < 12) (h : MH) : mInCX neg (ddM x) (.lv (ddMs l)) h = .ok (.bl (if neg then !(l.any fun z => eqvD z x) else l.any fun z => eqvD z x)) h := by
  have go : ∀ l : List Dd, (ddPs l).any (fun z => PyData.eqv z (ddP x)) = l.any fun z => eqvD z x := by
    intro l
    induction l with
    | nil => rfl
    | cons a r ih => rw [ddPs, List.any_cons, List.any_cons, ih, eqv_dd]
  have e2 := toD_dd h 12 (.li l) dl
  rw [ddM, ddP] at e2
  have s2 := shp_dd dl
  rw [ddP] at s2
  have b1 : asTD (.lv (ddMs l)) h = none := rfl
  have b2 : asD (.lv (ddMs l)) h = none := rfl
  unfold mInCX mInX inL
  simp only [b1, b2, Option.isSome_none, Bool.false_eq_true, if_false, toD_dd h 12 x dx, e2, shp_dd dx, s2, Bool.and_self, if_true, go]
noncomputable def kW (n : Tn) : MV := .str (Sw.w n).str
theorem keyM_wd : KeyM kW := fun a b => by
  show decide ((Sw.w a).str = (Sw.w b).str) = _
  rw [Sw.beq]
  by_cases e : a = b
  · subst e; simp
  · simp [e]
abbrev Spt := Tn × Int
noncomputable def spD (p : Spt) : Dd := .tup [.st (.w p.1), .int p.2]
noncomputable def kS (p : Spt) : MV := .tup [.str (Sw.w p.1).str, .int p.2]
theorem keyM_spt : KeyM kS := fun a b => by
  show beqV (.tup [.str (Sw.w a.1).str, .int a.2]) (.tup [.str (Sw.w b.1).str, .int b.2]) = _
  simp only [beqV, beqVs, Bool.and_true, Sw.beq]
  obtain ⟨a1, a2⟩ := a
  obtain ⟨b1, b2⟩ := b
  by_cases e : a1 = b1
  · subst e
    by_cases f : a2 = b2
    · subst f; simp
    · simp [f]
  · simp [e]
section
variable {α : Type} (le : α → α → Bool)
noncomputable def ins1 (x : α) : List α → List α
  | [] => [x]
  | y :: r => if le x y = true then x :: y :: r else y :: ins1 x r
noncomputable def isrt : List α → List α
  | [] => []
  | x :: r => ins1 le x (isrt r)
theorem ins1_perm (x : α) : ∀ l, (ins1 le x l).Perm (x :: l)
  | [] => .refl _
  | y :: r => by
    unfold ins1
    by_cases e : le x y = true
    · rw [if_pos e]
    · rw [if_neg e]; exact ((ins1_perm x r).cons y).trans (.swap x y r)
theorem isrt_perm : ∀ l, (isrt le l).Perm l
  | [] => .refl _
  | x :: r => (ins1_perm le x (isrt le r)).trans ((isrt_perm r).cons x)
variable {le}
theorem ins1_pw (tr : ∀ a b c, le a b = true → le b c = true → le a c = true) (to : ∀ a b, (le a b || le b a) = true) (x : α) : ∀ {l}, l.Pairwise (fun a b => le a b = true) → (ins1 le x l).Pairwise (fun a b => le a b = true)
  | [], _ => List.pairwise_singleton _ _
  | y :: r, h => by
    rw [List.pairwise_cons] at h
    unfold ins1
    by_cases e : le x y = true
    · rw [if_pos e]
      refine List.pairwise_cons.mpr ⟨fun z hz => ?_, List.pairwise_cons.mpr h⟩
      rcases List.mem_cons.mp hz with c | c
      · rw [c]; exact e
      · exact tr _ _ _ e (h.1 z c)
    · rw [if_neg e]
      have e2 : le y x = true := by
        have := to x y
        rw [Bool.or_eq_true] at this
        rcases this with t | t
        · exact absurd t e
        · exact t
      refine List.pairwise_cons.mpr ⟨fun z hz => ?_, ins1_pw tr to x h.2⟩
      rcases List.mem_cons.mp ((ins1_perm le x r).mem_iff.mp hz) with c | c
      · rw [c]; exact e2
      · exact h.1 z c
theorem isrt_pw (tr : ∀ a b c, le a b = true → le b c = true → le a c = true) (to : ∀ a b, (le a b || le b a) = true) : ∀ l : List α, (isrt le l).Pairwise (fun a b => le a b = true)
  | [] => .nil
  | x :: r => ins1_pw tr to x (isrt_pw tr to r)
theorem perm_uniq : ∀ {l r : List α}, l.Perm r → (∀ a ∈ l, ∀ b ∈ l, le a b = true → le b a = true → a = b) → l.Pairwise (fun a b => le a b = true) → r.Pairwise (fun a b => le a b = true) → l = r
  | [], r, p, _, _, _ => by have := p.length_eq; cases r with | nil => rfl | cons _ _ => simp at this
  | x :: l, [], p, _, _, _ => by have := p.length_eq; simp at this
  | x :: l, y :: r, p, an, h1, h2 => by
    rw [List.pairwise_cons] at h1 h2
    have e : x = y := by
      have a : x ∈ y :: r := p.mem_iff.mp List.mem_cons_self
      have b : y ∈ x :: l := p.mem_iff.mpr List.mem_cons_self
      rcases List.mem_cons.mp a with e | a'
      · exact e
      · rcases List.mem_cons.mp b with e | b'
        · exact e.symm
        · exact an x List.mem_cons_self y b (h1.1 y b') (h2.1 x a')
    subst e
    rw [perm_uniq (p.cons_inv) (fun a ha b hb => an a (List.mem_cons_of_mem _ ha) b (List.mem_cons_of_mem _ hb)) h1.2 h2.2]
theorem merge_isrt {l : List α} (tr : ∀ a b c, le a b = true → le b c = true → le a c = true) (to : ∀ a b, (le a b || le b a) = true) (an : ∀ a ∈ l, ∀ b ∈ l, le a b = true → le b a = true → a = b) : l.mergeSort le = isrt le l := by
  have pm := List.mergeSort_perm l le
  refine perm_uniq (pm.trans (isrt_perm le l).symm) (fun a ha b hb => an a (pm.mem_iff.mp ha) b (pm.mem_iff.mp hb)) ?_ (isrt_pw tr to l)
  first
  | exact List.pairwise_mergeSort tr to l
  | exact List.sorted_mergeSort tr to l
end
/-- a sorted thing of the mirror -/
theorem sortMD_map {α : Type} {q : α → MV} {d : α → PyData} {le : α → α → Bool} {l : List α} (hle : ∀ a ∈ l, ∀ b ∈ l, le a b = leM (q a, d a) (q b, d b))
    (tr : ∀ a b c, le a b = true → le b c = true → le a c = true) (to : ∀ a b, (le a b || le b a) = true) (an : ∀ a ∈ l, ∀ b ∈ l, le a b = true → le b a = true → a = b) : sortMD (l.map q) (l.map d) = (isrt le l).map q := by
  unfold sortMD
  rw [List.zip_map', ← List.map_mergeSort (r := le) (s := leM) hle, merge_isrt tr to an, List.map_map]
  rfl
theorem srt_of {α : Type} {fin : List MV → MH → R MV} {v : MV} {h : MH} {q : α → MV} {d : α → PyData} {le : α → α → Bool} {l : List α} (hc : collM v h = some (l.map q)) (hd : ∀ a ∈ l, toD h 12 (q a) = some (d a)) (hs : sokB (l.map d) = true)
    (hle : ∀ a ∈ l, ∀ b ∈ l, le a b = leM (q a, d a) (q b, d b)) (tr : ∀ a b c, le a b = true → le b c = true → le a c = true) (to : ∀ a b, (le a b || le b a) = true) (an : ∀ a ∈ l, ∀ b ∈ l, le a b = true → le b a = true → a = b) :
    mSrt fin [v] h = fin ((isrt le l).map q) h := by
  unfold mSrt
  simp only [hc, mapO_map hd, if_pos hs, sortMD_map hle tr to an]
theorem sok_tup {α : Type} {d : α → PyData} {l : List α} (ha : ∀ a ∈ l, ∀ b ∈ l, PySem.W.alike (d a) (d b) = true) (ht : ∀ a ∈ l, isTup1 (d a) = true) (hd : ∀ a ∈ l, (d a).depth ≤ 60) (hl : l.length ≤ SZ) : sokB (l.map d) = true := by
  unfold sokB
  simp only [Bool.and_eq_true, List.all_eq_true, List.mem_map, Bool.or_eq_true, decide_eq_true_eq, List.length_map, forall_exists_index, and_imp, forall_apply_eq_imp_iff₂]
  exact ⟨ha, .inl ht, hd, hl⟩
/-- places, sorted -/
noncomputable def leS2 (a b : Spt) : Bool := decide (a.1.val < b.1.val) || (decide (a.1.val = b.1.val) && decide (a.2 ≤ b.2))
theorem leS2_tr : ∀ a b c, leS2 a b = true → leS2 b c = true → leS2 a c = true := fun a b c => by
  unfold leS2
  simp only [Bool.or_eq_true, Bool.and_eq_true, decide_eq_true_eq]
  omega
theorem leS2_to : ∀ a b, (leS2 a b || leS2 b a) = true := fun a b => by
  unfold leS2
  simp only [Bool.or_eq_true, Bool.and_eq_true, decide_eq_true_eq]
  omega
theorem leS2_an : ∀ a b, leS2 a b = true → leS2 b a = true → a = b := fun a b => by
  unfold leS2
  simp only [Bool.or_eq_true, Bool.and_eq_true, decide_eq_true_eq]
  intro h1 h2
  exact Prod.ext (Fin.ext (by omega)) (by omega)
theorem one_lt (a b : Nat) : decide (([a] : List Nat) < [b]) = decide (a < b) := by
  by_cases e : a < b
  · rw [decide_eq_true e, decide_eq_true]; exact List.cons_lt_cons_iff.mpr (.inl e)
  · rw [decide_eq_false e, decide_eq_false]
    intro z
    rcases List.cons_lt_cons_iff.mp z with c | c
    · exact e c
    · exact absurd c.2 (List.lt_irrefl _)
theorem leS2_M (a b : Spt) (x y : MV) : leS2 a b = leM (x, ddP (spD a)) (y, ddP (spD b)) := by
  have e : ∀ p : Spt, PySem.W.keyToks (ddP (spD p)) = [.inl 1, .inr [97 + p.1.val], .inl 1, .inl p.2, .inl 0] := fun p => by
    simp [spD, ddP, ddPs, PySem.W.keyToks, PySem.W.keyToksAll, Sw.str]
  have e1 : ∀ i j : Int, itemLt (.inl i) (.inl j) = decide (i < j) := fun _ _ => rfl
  have e2 : ∀ i j : Nat, itemLt (.inr [97 + i]) (.inr [97 + j]) = decide (i < j) := fun i j => by
    show decide (([97 + i] : List Nat) < [97 + j]) = _
    rw [one_lt]
    by_cases z : i < j
    · rw [decide_eq_true z, decide_eq_true (by omega)]
    · rw [decide_eq_false z, decide_eq_false (by omega)]
  show _ = !(PyProof.Rows.lexLt itemOrd (PySem.W.keyToks (ddP (spD b))) (PySem.W.keyToks (ddP (spD a))))
  rw [e, e]
  simp only [PyProof.Rows.lexLt, e1, e2, Int.lt_irrefl, decide_false, Bool.false_or, Bool.not_false, Bool.true_and, Bool.and_false, Bool.or_false]
  unfold leS2
  rw [Bool.eq_iff_iff]
  simp only [Bool.or_eq_true, Bool.and_eq_true, decide_eq_true_eq, Bool.not_eq_true', Bool.or_eq_false_iff, Bool.and_eq_false_iff, decide_eq_false_iff_not, Bool.not_eq_false']
  omega
/-- things with a number ahead -/
theorem leF_M {i j : Int} {l m : List Dd} (x y : MV) (ne : i ≠ j) : decide (i ≤ j) = leM (x, ddP (.tup (.int i :: l))) (y, ddP (.tup (.int j :: m))) := by
  have e1 : ∀ i j : Int, itemLt (.inl i) (.inl j) = decide (i < j) := fun _ _ => rfl
  show _ = !(PyProof.Rows.lexLt itemOrd (PySem.W.keyToks (ddP (.tup (.int j :: m)))) (PySem.W.keyToks (ddP (.tup (.int i :: l)))))
  simp only [ddP, ddPs, PySem.W.keyToks, PySem.W.keyToksAll, List.cons_append, List.nil_append, PyProof.Rows.lexLt, e1, Int.lt_irrefl, decide_false, Bool.false_or, Bool.not_false, Bool.true_and]
  rcases Int.lt_or_lt_of_ne ne with c | c
  · rw [decide_eq_true (Int.le_of_lt c), decide_eq_false (Int.not_lt.mpr (Int.le_of_lt c)), decide_eq_true c]; rfl
  · rw [decide_eq_false (Int.not_le.mpr c), decide_eq_true c]; rfl
theorem leM_self (x : MV) (d : PyData) (y : MV) : leM (x, d) (y, d) = true := by
  show (!(PyProof.Rows.lexLt itemOrd (PySem.W.keyToks d) (PySem.W.keyToks d))) = true
  rw [PyProof.Rows.lex_irrefl]; rfl
end MP
namespace MP
open PySem PySem.Spec PyProof.Rows L2
structure Mv where
  to : Int
  cop : Bool
  rt : List (Spt × Bool)
  deriving DecidableEq
/-- frame, whether it may be written, whether it is of a great entry -/
abbrev Ent := Int × Bool × Bool
structure Sto where
  size : Int
  wo : List (Int × Int)
  ho : List (Int × Bool)
  ke : List (Int × Int)
  pi : List (Int × Int)
  sp : List (Int × List (Spt × Bool))
  ta : List (Tn × List (Int × Ent))
  mo : List (Int × Mv)
  deriving DecidableEq
inductive Ro where
  | st | wo | ho | ke | pi | sp | ta | mo
  | spf (f : Int) | tab (w : Tn) | mvf (f : Int) | rtf (f : Int)
  deriving DecidableEq
noncomputable def rtS (b : Bool) : Sw := if b then .write else .read
noncomputable def enD (e : Ent) : Dd := .tup [.int e.1, .st (rtS e.2.1), .bl e.2.2]
noncomputable def entM (e : Ent) : MV := ddM (enD e)
noncomputable def blA {κ : Type} (_ : κ) (b : Bool) : MV := .bl b
noncomputable def intA {κ : Type} (_ : κ) (b : Int) : MV := .int b
noncomputable def entA {κ : Type} (_ : κ) (e : Ent) : MV := entM e
noncomputable def stF (ix : Ro → Nat) (n : Int) : List (Str × MV) :=
  [(Str.ofString "own_size", .int n), (Str.ofString "worths", .ref (ix .wo)), (Str.ofString "house_frames", .ref (ix .ho)), (Str.ofString "kept_worths", .ref (ix .ke)),
   (Str.ofString "own_pins", .ref (ix .pi)), (Str.ofString "spots", .ref (ix .sp)), (Str.ofString "tables", .ref (ix .ta)), (Str.ofString "own_moves", .ref (ix .mo))]
noncomputable def mvF (ix : Ro → Nat) (f : Int) (m : Mv) : List (Str × MV) :=
  [(Str.ofString "frame_from", .int f), (Str.ofString "frame_to", .int m.to), (Str.ofString "has_copied", .bl m.cop), (Str.ofString "right_ones", .ref (ix (.rtf f)))]
noncomputable def cont (ix : Ro → Nat) (s : Sto) : Ro → Option MO
  | .st => some (.ins 0 (stF ix s.size))
  | .wo => some (.dct (encA .int intA s.wo))
  | .ho => some (.dct (encA .int blA s.ho))
  | .ke => some (.dct (encA .int intA s.ke))
  | .pi => some (.dct (encA .int intA s.pi))
  | .sp => some (.dct (encA .int (fun f _ => .ref (ix (.spf f))) s.sp))
  | .ta => some (.dct (encA kW (fun w _ => .ref (ix (.tab w))) s.ta))
  | .mo => some (.dct (encA .int (fun f _ => .ref (ix (.mvf f))) s.mo))
  | .spf f => (aget f s.sp).map fun l => .dtt (encA kS blA l)
  | .tab w => (aget w s.ta).map fun t => .dct (encA .int entA t)
  | .mvf f => (aget f s.mo).map fun m => .ins 1 (mvF ix f m)
  | .rtf f => (aget f s.mo).map fun m => .dtt (encA kS blA m.rt)
noncomputable def sml {α : Type} (l : List α) : Bool := decide (l.length < 1000)
noncomputable def okL {κ α : Type} [DecidableEq κ] (l : List (κ × α)) : Bool := nodA l && sml l
/-- what each store has -/
noncomputable def okS (s : Sto) : Bool :=
  okL s.wo && okL s.ho && okL s.ke && okL s.pi && okL s.sp && okL s.ta && okL s.mo && (s.sp.all fun p => okL p.2) && (s.ta.all fun p => okL p.2) && (s.mo.all fun p => okL p.2.rt)
    && decide (0 ≤ s.size) && decide (s.size ≤ 64)
/-- each frame with a worth has its spots -/
noncomputable def wsB (s : Sto) : Bool := s.wo.all fun p => (aget p.1 s.sp).isSome
structure Enc (ix : Ro → Nat) (s : Sto) (h : MH) : Prop where
  gt : ∀ r o, cont ix s r = some o → h[ix r]? = some o
  inj : ∀ r r' o o', cont ix s r = some o → cont ix s r' = some o' → ix r = ix r' → r = r'
  ok : okS s = true
section
variable {ix : Ro → Nat} {s s' : Sto} {h h' : MH}
theorem Enc.ne (E : Enc ix s h) {r r' : Ro} {o o' : MO} (c : cont ix s r = some o) (c' : cont ix s r' = some o') (n : r ≠ r') : ix r ≠ ix r' := fun e => n (E.inj r r' o o' c c' e)
theorem Enc.lt (E : Enc ix s h) {r : Ro} {o : MO} (c : cont ix s r = some o) : ix r < h.length := (List.getElem?_eq_some_iff.mp (E.gt r o c)).1
theorem Enc.grow (E : Enc ix s h) (g : MH) : Enc ix s (h ++ g) :=
  ⟨fun r o c => by rw [List.getElem?_append_left (E.lt c)]; exact E.gt r o c, E.inj, E.ok⟩
/-- one role's contents change; others may go -/
theorem Enc.set (E : Enc ix s h) {r0 : Ro} {o0 o1 : MO} (c0 : cont ix s r0 = some o0) (c1 : cont ix s' r0 = some o1) (k : okS s' = true)
    (c : ∀ r o, r ≠ r0 → cont ix s' r = some o → cont ix s r = some o) : Enc ix s' (h.set (ix r0) o1) := by
  have lv : ∀ r o, cont ix s' r = some o → ∃ o', cont ix s r = some o' := fun r o e => by
    by_cases z : r = r0
    · subst z; exact ⟨_, c0⟩
    · exact ⟨_, c r o z e⟩
  refine ⟨fun r o e => ?_, fun r r' o o' e e' q => ?_, k⟩
  · by_cases z : r = r0
    · subst z
      rw [c1] at e; cases e
      exact List.getElem?_set_self (E.lt c0)
    · rw [List.getElem?_set_ne (E.ne c0 (c r o z e) (Ne.symm z))]
      exact E.gt r o (c r o z e)
  · obtain ⟨a, ea⟩ := lv r o e
    obtain ⟨b, eb⟩ := lv r' o' e'
    exact E.inj r r' a b ea eb q
noncomputable def upx (ix : Ro → Nat) (r0 : Ro) (n : Nat) : Ro → Nat := fun r => if r = r0 then n else ix r
/-- a new role at an index that no role has -/
theorem Enc.add (E : Enc ix s h) {r0 p : Ro} {n : Nat} {o0 op op' : MO} (hn : ∀ r o, cont ix s r = some o → ix r ≠ n) (h0 : h[n]? = some o0) (hp : cont ix s p = some op) (np : p ≠ r0) (c0 : cont (upx ix r0 n) s' r0 = some o0)
    (c1 : cont (upx ix r0 n) s' p = some op') (k : okS s' = true) (c : ∀ r o, r ≠ r0 → r ≠ p → cont (upx ix r0 n) s' r = some o → cont ix s r = some o) : Enc (upx ix r0 n) s' (h.set (ix p) op') := by
  have lv : ∀ r o, r ≠ r0 → cont (upx ix r0 n) s' r = some o → ∃ o', cont ix s r = some o' := fun r o y e => by
    by_cases z : r = p
    · subst z; exact ⟨_, hp⟩
    · exact ⟨_, c r o y z e⟩
  refine ⟨fun r o e => ?_, fun r r' o o' e e' q => ?_, k⟩
  · by_cases y : r = r0
    · subst y
      rw [c0] at e; cases e
      unfold upx
      rw [if_pos rfl, List.getElem?_set_ne (hn p op hp)]
      exact h0
    · have ux : upx ix r0 n r = ix r := by unfold upx; rw [if_neg y]
      rw [ux]
      by_cases z : r = p
      · subst z
        rw [c1] at e; cases e
        exact List.getElem?_set_self (E.lt hp)
      · rw [List.getElem?_set_ne (E.ne hp (c r o y z e) (Ne.symm z))]
        exact E.gt r o (c r o y z e)
  · unfold upx at q
    by_cases y : r = r0 <;> by_cases y' : r' = r0
    · rw [y, y']
    · rw [if_pos y, if_neg y'] at q
      obtain ⟨b, eb⟩ := lv r' o' y' e'
      exact absurd q.symm (hn r' b eb)
    · rw [if_neg y, if_pos y'] at q
      obtain ⟨b, eb⟩ := lv r o y e
      exact absurd q (hn r b eb)
    · rw [if_neg y, if_neg y'] at q
      obtain ⟨a, ea⟩ := lv r o y e
      obtain ⟨b, eb⟩ := lv r' o' y' e'
      exact E.inj r r' a b ea eb q
theorem Enc.st (E : Enc ix s h) : h[ix .st]? = some (.ins 0 (stF ix s.size)) := E.gt .st _ rfl
theorem Enc.wo (E : Enc ix s h) : h[ix .wo]? = some (.dct (encA .int intA s.wo)) := E.gt .wo _ rfl
theorem Enc.ho (E : Enc ix s h) : h[ix .ho]? = some (.dct (encA .int blA s.ho)) := E.gt .ho _ rfl
theorem Enc.ke (E : Enc ix s h) : h[ix .ke]? = some (.dct (encA .int intA s.ke)) := E.gt .ke _ rfl
theorem Enc.pi (E : Enc ix s h) : h[ix .pi]? = some (.dct (encA .int intA s.pi)) := E.gt .pi _ rfl
theorem Enc.sp (E : Enc ix s h) : h[ix .sp]? = some (.dct (encA .int (fun f _ => .ref (ix (.spf f))) s.sp)) := E.gt .sp _ rfl
theorem Enc.ta (E : Enc ix s h) : h[ix .ta]? = some (.dct (encA kW (fun w _ => .ref (ix (.tab w))) s.ta)) := E.gt .ta _ rfl
theorem Enc.mo (E : Enc ix s h) : h[ix .mo]? = some (.dct (encA .int (fun f _ => .ref (ix (.mvf f))) s.mo)) := E.gt .mo _ rfl
theorem Enc.spf (E : Enc ix s h) {f : Int} {l} (e : aget f s.sp = some l) : h[ix (.spf f)]? = some (.dtt (encA kS blA l)) := E.gt (.spf f) _ (by simp only [cont, e, Option.map_some])
theorem Enc.tab (E : Enc ix s h) {w : Tn} {t} (e : aget w s.ta = some t) : h[ix (.tab w)]? = some (.dct (encA .int entA t)) := E.gt (.tab w) _ (by simp only [cont, e, Option.map_some])
theorem Enc.mvf (E : Enc ix s h) {f : Int} {m} (e : aget f s.mo = some m) : h[ix (.mvf f)]? = some (.ins 1 (mvF ix f m)) := E.gt (.mvf f) _ (by simp only [cont, e, Option.map_some])
theorem Enc.rtf (E : Enc ix s h) {f : Int} {m} (e : aget f s.mo = some m) : h[ix (.rtf f)]? = some (.dtt (encA kS blA m.rt)) := E.gt (.rtf f) _ (by simp only [cont, e, Option.map_some])
structure OkS (s : Sto) : Prop where
  wo : okL s.wo = true
  ho : okL s.ho = true
  ke : okL s.ke = true
  pi : okL s.pi = true
  sp : okL s.sp = true
  ta : okL s.ta = true
  mo : okL s.mo = true
  spf : ∀ f l, aget f s.sp = some l → okL l = true
  tab : ∀ w t, aget w s.ta = some t → okL t = true
  rtf : ∀ f m, aget f s.mo = some m → okL m.rt = true
  z0 : 0 ≤ s.size
  z64 : s.size ≤ 64
theorem okS_iff {s : Sto} (h : okS s = true) : OkS s := by
  unfold okS at h
  simp only [Bool.and_eq_true, List.all_eq_true, decide_eq_true_eq] at h
  obtain ⟨⟨⟨⟨⟨⟨⟨⟨⟨⟨⟨a1, a2⟩, a3⟩, a4⟩, a5⟩, a6⟩, a7⟩, a8⟩, a9⟩, a10⟩, a12⟩, a13⟩ := h
  exact ⟨a1, a2, a3, a4, a5, a6, a7, fun f l e => a8 _ (aget_mem e), fun w t e => a9 _ (aget_mem e), fun f m e => a10 _ (aget_mem e), a12, a13⟩
theorem ws_of {s : Sto} (W : wsB s = true) {f w : Int} (e : aget f s.wo = some w) : ∃ l, aget f s.sp = some l := by
  unfold wsB at W
  rw [List.all_eq_true] at W
  exact Option.isSome_iff_exists.mp (W _ (aget_mem e))
theorem Enc.oks (E : Enc ix s h) : OkS s := okS_iff E.ok
theorem okL_nod {κ α : Type} [DecidableEq κ] {l : List (κ × α)} (h : okL l = true) : nodA l = true := (Bool.and_eq_true _ _ ▸ h).1
theorem okL_len {κ α : Type} [DecidableEq κ] {l : List (κ × α)} (h : okL l = true) : l.length < 1000 := of_decide_eq_true (Bool.and_eq_true _ _ ▸ h).2
end
section
variable {ix : Ro → Nat} {s : Sto} {h : MH} (E : Enc ix s h)
include E
theorem fld_size : mFld [0] (Str.ofString "own_size") (.ref (ix .st)) h = .ok (.int s.size) h := by unfold mFld; simp only [E.st]; rfl
theorem fld_wo : mFld [0] (Str.ofString "worths") (.ref (ix .st)) h = .ok (.ref (ix .wo)) h := by unfold mFld; simp only [E.st]; rfl
theorem fld_ho : mFld [0] (Str.ofString "house_frames") (.ref (ix .st)) h = .ok (.ref (ix .ho)) h := by unfold mFld; simp only [E.st]; rfl
theorem fld_ke : mFld [0] (Str.ofString "kept_worths") (.ref (ix .st)) h = .ok (.ref (ix .ke)) h := by unfold mFld; simp only [E.st]; rfl
theorem fld_pi : mFld [0] (Str.ofString "own_pins") (.ref (ix .st)) h = .ok (.ref (ix .pi)) h := by unfold mFld; simp only [E.st]; rfl
theorem fld_sp : mFld [0] (Str.ofString "spots") (.ref (ix .st)) h = .ok (.ref (ix .sp)) h := by unfold mFld; simp only [E.st]; rfl
theorem fld_ta : mFld [0] (Str.ofString "tables") (.ref (ix .st)) h = .ok (.ref (ix .ta)) h := by unfold mFld; simp only [E.st]; rfl
theorem fld_mo : mFld [0] (Str.ofString "own_moves") (.ref (ix .st)) h = .ok (.ref (ix .mo)) h := by unfold mFld; simp only [E.st]; rfl
theorem fld_from {f m} (e : aget f s.mo = some m) : mFld [1] (Str.ofString "frame_from") (.ref (ix (.mvf f))) h = .ok (.int f) h := by unfold mFld; simp only [E.mvf e]; rfl
theorem fld_to {f m} (e : aget f s.mo = some m) : mFld [1] (Str.ofString "frame_to") (.ref (ix (.mvf f))) h = .ok (.int m.to) h := by unfold mFld; simp only [E.mvf e]; rfl
theorem fld_cop {f m} (e : aget f s.mo = some m) : mFld [1] (Str.ofString "has_copied") (.ref (ix (.mvf f))) h = .ok (.bl m.cop) h := by unfold mFld; simp only [E.mvf e]; rfl
theorem fld_rt {f m} (e : aget f s.mo = some m) : mFld [1] (Str.ofString "right_ones") (.ref (ix (.mvf f))) h = .ok (.ref (ix (.rtf f))) h := by unfold mFld; simp only [E.mvf e]; rfl
/-- a method's call -/
theorem meth0 {mn : Str} {ro : EM} {rs : AM} {fn : MV → List MV → MH → R MV} {σ : Lo} {as : List MV} {h2 : MH} (e1 : ro σ h = .ok (.ref (ix .st)) h) (e2 : rs σ h = .ok as h2) (n : ((stF ix s.size).lookup mn).isNone = true) :
    mMethC 0 mn ro rs fn σ h = fn (.ref (ix .st)) as h2 := by
  unfold mMethC
  rw [e1, bindR_ok]
  simp only [E.st, n, e2, bindR_ok]
  rfl
end
section
variable {κ α : Type} [DecidableEq κ] {km : κ → MV} {f : κ → α → MV} {h : MH} {n : Nat} {l : List (κ × α)}
theorem ix_dct (e : h[n]? = some (.dct (encA km f l))) (hk : KeyM km) (hm : ∀ k, ∃ y, mkey (km k) = some y) {k : κ} {v : α} (g : aget k l = some v) : mIxA (.ref n) (km k) h = .ok (f k v) h := by
  obtain ⟨y, ey⟩ := hm k
  have a : asD (.ref n) h = some (encA km f l) := by unfold asD; simp only [e]
  unfold mIxA isDk mDGet
  simp only [a, Option.isSome_some, if_true, ey, look_enc hk, g, Option.map_some]
theorem in_dct (neg : Bool) (e : h[n]? = some (.dct (encA km f l))) (hk : KeyM km) (hm : ∀ k, ∃ y, mkey (km k) = some y) (k : κ) : mInCX neg (km k) (.ref n) h = .ok (.bl (if neg then !(aget k l).isSome else (aget k l).isSome)) h := by
  obtain ⟨y, ey⟩ := hm k
  have a : asD (.ref n) h = some (encA km f l) := by unfold asD; simp only [e]
  have b : asTD (.ref n) h = none := by unfold asTD; simp only [e]
  unfold mInCX mInX
  simp only [a, b, Option.isSome_none, Bool.false_eq_true, if_false, ey, look_enc hk]
  cases aget k l <;> rfl
theorem in_dtt (neg : Bool) {l : List (Spt × α)} {f : Spt → α → MV} (e : h[n]? = some (.dtt (encA kS f l))) (k : Spt) : mInCX neg (kS k) (.ref n) h = .ok (.bl (if neg then !(aget k l).isSome else (aget k l).isSome)) h := by
  have b : asTD (.ref n) h = some (encA kS f l) := by unfold asTD; simp only [e]
  unfold mInCX mInT
  simp only [b, Option.isSome_some, if_true, look_enc keyM_spt]
  rw [if_pos (show isK2 (kS k) = true from rfl)]
  cases aget k l <;> rfl
theorem get_dct (e : h[n]? = some (.dct (encA km f l))) (hk : KeyM km) (hm : ∀ k, ∃ y, mkey (km k) = some y) (k : κ) : mDGet1 (.ref n) (km k) h = .ok (((aget k l).map (f k)).getD .non) h := by
  obtain ⟨y, ey⟩ := hm k
  have a : asD (.ref n) h = some (encA km f l) := by unfold asD; simp only [e]
  unfold mDGet1
  simp only [a, ey, look_enc hk]
theorem dk_dct (e : h[n]? = some (.dct (encA km f l))) : isDk (.ref n) h = true := by
  unfold isDk asD; simp only [e]; rfl
theorem pop_dct (e : h[n]? = some (.dct (encA km f l))) (hk : KeyM km) (hm : ∀ k, ∃ y, mkey (km k) = some y) (nd : nodA l = true) {k : κ} {v : α} (g : aget k l = some v) : mDPop (.ref n) (km k) h = .ok (f k v) (h.set n (.dct (encA km f (adel k l)))) := by
  obtain ⟨y, ey⟩ := hm k
  unfold mDPop
  simp only [e, ey, look_enc hk, g, Option.map_some, nod_enc hk, nd, if_true, drop_enc hk]
  rfl
theorem set_dct {rv ro ri : EM} {σ : Lo} {h0 h1 : MH} {k : κ} {x : MV} (ev : rv σ h0 = .ok x h1) (eo : ro σ h1 = .ok (.ref n) h) (ei : ri σ h = .ok (km k) h) (e : h[n]? = some (.dct (encA km f l))) (hk : KeyM km) (hm : ∀ k, ∃ y, mkey (km k) = some y) (ok : okL l = true) :
    sSetC rv ro ri σ h0 = .nx σ (h.set n (.dct (putKV (encA km f l) (km k) x))) := by
  obtain ⟨y, ey⟩ := hm k
  have q : isDQ (.ref n) h = true := by unfold isDQ; simp only [e]
  have ln : (decide ((encA km f l).length < SZ) && nodK (encA km f l)) = true := by
    rw [nod_enc hk, okL_nod ok, len_enc, decide_eq_true (Nat.lt_trans (okL_len ok) (by decide))]; rfl
  unfold sSetC
  rw [ev, bindS_ok, eo, bindS_ok, ei, bindS_ok, if_pos q]
  unfold sSetQx
  simp only [bindS_ok, e, ey, ln, if_true, setH]
theorem set_dtt {rv ro ri : EM} {σ : Lo} {h0 h1 : MH} {l : List (Spt × α)} {f : Spt → α → MV} {k : Spt} {x : MV} (ev : rv σ h0 = .ok x h1) (eo : ro σ h1 = .ok (.ref n) h) (ei : ri σ h = .ok (kS k) h) (e : h[n]? = some (.dtt (encA kS f l))) (ok : okL l = true) :
    sSetC rv ro ri σ h0 = .nx σ (h.set n (.dtt (putKV (encA kS f l) (kS k) x))) := by
  have q : isDQ (.ref n) h = true := by unfold isDQ; simp only [e]
  have ln : (isK2 (kS k) && (decide ((encA kS f l).length < SZ) && nodK (encA kS f l))) = true := by
    rw [nod_enc keyM_spt, okL_nod ok, len_enc, decide_eq_true (Nat.lt_trans (okL_len ok) (by decide))]; rfl
  unfold sSetC
  rw [ev, bindS_ok, eo, bindS_ok, ei, bindS_ok, if_pos q]
  unfold sSetQx
  simp only [bindS_ok, e, ln, if_true, setH]
theorem mk_int : ∀ k : Int, ∃ y, mkey (.int k) = some y := fun _ => ⟨_, rfl⟩
theorem mk_wd : ∀ k : Tn, ∃ y, mkey (kW k) = some y := fun _ => ⟨_, rfl⟩
end
end MP
namespace MP
open PySem PySem.Spec PyProof.Rows L2
theorem fld_at {cs : List Nat} {F : Str} {n k : Nat} {fs : List (Str × MV)} {x : MV} {h : MH} (e : h[n]? = some (.ins k fs)) (c : cs.contains k = true) (l : fs.lookup F = some x) : mFld cs F (.ref n) h = .ok x h := by
  unfold mFld; simp only [e, c, if_true, l]
theorem lk_set {h : MH} {n : Nat} {o x : MO} (e : h[n]? = some o) : (h.set n x).set n o = h := by
  obtain ⟨hn, e'⟩ := List.getElem?_eq_some_iff.mp e
  subst e'
  rw [List.set_set, List.set_getElem_self hn]
section
variable (a lo hi s f : Int) (h : MH)
theorem whole_i : m_is_whole [.int a] h = .ok (.bl true) h := by simp [m_is_whole, mb_is_whole]
theorem from_i : m_is_from [.int a, .int lo, .int hi] h = .ok (.bl (decide (lo ≤ a) && decide (a ≤ hi))) h := by
  have e := cF_val0 (n := 1) rfl (whole_i a h)
  by_cases z : lo ≤ a <;> simp [m_is_from, mb_is_from, e, z]
theorem frame_i : m_is_frame [.int s, .int f] h = .ok (.bl (decide (0 ≤ f) && decide (f ≤ s - 1))) h := by
  have e := cR_val0 (n := 3) rfl (from_i f 0 (s - 1) h) (by simp)
  simp [m_is_frame, mb_is_frame, e]
theorem worth_i (z1 : -1000000000 ≤ a) (z2 : a ≤ 1000000000) : m_look_at_worth [.int a] h = .ok .non h := by
  have e := cR_val0 (n := 3) rfl (from_i a (-1000000000) 1000000000 h) (by simp)
  have e2 : m_is_worth [.int a] h = .ok (.bl true) h := by
    simp [m_is_worth, mb_is_worth, c_MOST_WORTH, e, z1, z2]
  have e3 := cF_val0 (n := 1) rfl e2
  simp [m_look_at_worth, mb_look_at_worth, e3, isTru]
theorem addr_i (z1 : 0 ≤ a) (z2 : a ≤ 31) : m_look_at_address [.int a] h = .ok .non h := by
  have e := cF_val0 (n := 3) rfl (from_i a 0 31 h)
  rw [decide_eq_true z1, decide_eq_true z2] at e
  simp [m_look_at_address, mb_look_at_address, c_MOST_ADDRESS, e, isTru]
theorem rights_i (b : Bool) : m_look_at_rights [.str (rtS b).str] h = .ok .non h := by
  have i : inV (.str (rtS b).str) [V.str (Str.ofString "read"), V.str (Str.ofString "write")] = true := by cases b <;> decide
  have e1 : mInS (.str (rtS b).str) (.tup [.str (Str.ofString "read"), .str (Str.ofString "write")]) h = .ok (.bl true) h := by
    simp [mInS, mInSN, flatM, mapO, i]
  have e0 : isT .str (.str (rtS b).str) h = .ok (.bl true) h := rfl
  have e2 : m_is_rights [.str (rtS b).str] h = .ok (.bl true) h := by
    simp [m_is_rights, mb_is_rights, c_RIGHTS, e1, e0]
  have e3 := cF_val0 (n := 1) rfl e2
  simp [m_look_at_rights, mb_look_at_rights, e3, isTru]
end
noncomputable def heldG (f : Int) : List (Int × Mv) → Option Int
  | [] => none
  | (j, m) :: r => if m.to = f then some j else heldG f r
noncomputable def heldM : Option Int → MV
  | some j => .int j
  | none => .non
noncomputable def sptS (s : Sto) (f : Int) : List Spt := isrt leS2 (((aget f s.sp).getD []).map (·.1))
noncomputable def frD : Dd := .tup [.st .free]
noncomputable def whD (s : Sto) (f : Int) : Dd :=
  if (aget f s.ho).isSome = true then .tup [.st .house] else
  match aget f s.ke with
  | some w => .tup [.st .kept, .int w]
  | none => match heldG f s.mo with
    | some j => .tup [.st .held, .int j]
    | none => match aget f s.wo with
      | some w => .tup [.st .tenants, .int w, .tup ((sptS s f).map spD)]
      | none => frD
noncomputable def frB (s : Sto) (f : Int) : Bool := (aget f s.ho).isNone && ((aget f s.ke).isNone && ((heldG f s.mo).isNone && (aget f s.wo).isNone))
theorem fr_wh (s : Sto) (f : Int) : eqvD (whD s f) frD = frB s f := by
  unfold whD frB
  cases aget f s.ho with
  | some _ => rfl
  | none => cases aget f s.ke with
    | some _ => rfl
    | none => cases heldG f s.mo with
      | some _ => rfl
      | none => cases aget f s.wo <;> rfl
noncomputable def rngI (n : Int) : List Int := (List.range n.toNat).map Int.ofNat
theorem rg_rng (n : Int) : rgM 0 1 n.toNat = (rngI n).map .int := by
  unfold rgM rngI
  rw [List.map_map]
  exact List.map_congr_left fun i _ => by simp
theorem rng_mem {n f : Int} : f ∈ rngI n ↔ 0 ≤ f ∧ f < n := by
  unfold rngI
  rw [List.mem_map]
  constructor
  · rintro ⟨i, hi, e⟩
    rw [List.mem_range] at hi
    have : (i : Int) = f := e
    omega
  · rintro ⟨h1, h2⟩
    exact ⟨f.toNat, by rw [List.mem_range]; omega, by show ((f.toNat : Nat) : Int) = f; omega⟩
theorem rng_len (n : Int) : (rngI n).length = n.toNat := by unfold rngI; rw [List.length_map, List.length_range]
noncomputable def freeP (s : Sto) : List Int := (rngI s.size).filter (frB s)
theorem depDs_map {α : Type} {g : α → Dd} {n : Nat} (hg : ∀ x, depD (g x) ≤ n) : ∀ l : List α, depDs (l.map g) ≤ n
  | [] => Nat.zero_le _
  | a :: r => by rw [List.map_cons, depDs]; exact Nat.max_le.mpr ⟨hg a, depDs_map hg r⟩
theorem dep_sp (p : Spt) : depD (spD p) ≤ 1 := Nat.le_refl _
theorem dep_wh (s : Sto) (f : Int) : depD (whD s f) ≤ 3 := by
  unfold whD
  cases aget f s.ho with
  | some _ => simp [depD, depDs]
  | none => cases aget f s.ke with
    | some _ => simp [depD, depDs]
    | none => cases heldG f s.mo with
      | some _ => simp [depD, depDs]
      | none => cases aget f s.wo with
        | none => simp [depD, depDs, frD]
        | some w =>
          have := depDs_map dep_sp (sptS s f)
          simp only [Option.isSome_none, Bool.false_eq_true, if_false, depD, depDs]
          omega
section
variable {ix : Ro → Nat} {s : Sto} {h : MH}
theorem Enc.gs (E : Enc ix s h) {r r0 : Ro} {o o0 x : MO} (c : cont ix s r = some o) (c0 : cont ix s r0 = some o0) (n : r ≠ r0) : (h.set (ix r0) x)[ix r]? = some o := by
  rw [List.getElem?_set_ne (E.ne c0 c (Ne.symm n))]; exact E.gt r o c
theorem cont_mvf {f : Int} {m : Mv} (e : aget f s.mo = some m) : cont ix s (.mvf f) = some (.ins 1 (mvF ix f m)) := by simp only [cont, e, Option.map_some]
theorem cont_rtf {f : Int} {m : Mv} (e : aget f s.mo = some m) : cont ix s (.rtf f) = some (.dtt (encA kS blA m.rt)) := by simp only [cont, e, Option.map_some]
theorem cont_spf {f : Int} {l} (e : aget f s.sp = some l) : cont ix s (.spf f) = some (.dtt (encA kS blA l)) := by simp only [cont, e, Option.map_some]
theorem cont_tab {w : Tn} {t} (e : aget w s.ta = some t) : cont ix s (.tab w) = some (.dct (encA .int entA t)) := by simp only [cont, e, Option.map_some]
theorem held_go (E : Enc ix s h) (f : Int) (X : MO) : ∀ (r : List (Int × Mv)) (z : Option MV), (∀ p ∈ r, aget p.1 s.mo = some p.2) →
    (∀ j, heldG f r = some j → forGo (fun _ => true) (gmName 2) lb_Store_held_for_0 (r.map fun p => .ref (ix (.mvf p.1))) [some (.ref (ix .st)), some (.int f), z] (h.set (ix .mo) X) = .rt (.int j) (h.set (ix .mo) X)) ∧
    (heldG f r = none → ∃ z', forGo (fun _ => true) (gmName 2) lb_Store_held_for_0 (r.map fun p => .ref (ix (.mvf p.1))) [some (.ref (ix .st)), some (.int f), z] (h.set (ix .mo) X) = .nx [some (.ref (ix .st)), some (.int f), z'] (h.set (ix .mo) X))
  | [], z, _ => ⟨(fun j e => by cases e), (fun _ => ⟨z, rfl⟩)⟩
  | (j, m) :: r, z, hm => by
    have em := hm (j, m) List.mem_cons_self
    have eo : (h.set (ix .mo) X)[ix (.mvf j)]? = some (.ins 1 (mvF ix j m)) := E.gs (cont_mvf em) (r0 := .mo) rfl (by intro q; cases q)
    have e1 : mFld [1] (Str.ofString "frame_to") (.ref (ix (.mvf j))) (h.set (ix .mo) X) = .ok (.int m.to) (h.set (ix .mo) X) := fld_at eo rfl rfl
    have e2 : mFld [1] (Str.ofString "frame_from") (.ref (ix (.mvf j))) (h.set (ix .mo) X) = .ok (.int j) (h.set (ix .mo) X) := fld_at eo rfl rfl
    have ih := held_go E f X r (some (.ref (ix (.mvf j)))) fun p hp => hm p (List.mem_cons_of_mem _ hp)
    by_cases q : m.to = f
    · refine ⟨fun k e => ?_, fun e => ?_⟩
      · unfold heldG at e
        rw [if_pos q] at e
        cases e
        rw [List.map_cons, forGo]
        simp only [if_true, gmName, List.set_cons_succ, List.set_cons_zero, lb_Store_held_for_0, sIf, mB, m2, m1, mVar, List.getElem?_cons_succ, List.getElem?_cons_zero, bindR_ok, e1, e2, eqA_int, decide_eq_true q, isB, bindS_ok, sRet]
      · unfold heldG at e
        rw [if_pos q] at e
        cases e
    · have st : forGo (fun _ => true) (gmName 2) lb_Store_held_for_0 (((j, m) :: r).map fun p => .ref (ix (.mvf p.1))) [some (.ref (ix .st)), some (.int f), z] (h.set (ix .mo) X)
          = forGo (fun _ => true) (gmName 2) lb_Store_held_for_0 (r.map fun p => .ref (ix (.mvf p.1))) [some (.ref (ix .st)), some (.int f), some (.ref (ix (.mvf j)))] (h.set (ix .mo) X) := by
        rw [List.map_cons, forGo]
        simp only [if_true, gmName, List.set_cons_succ, List.set_cons_zero, lb_Store_held_for_0, sIf, mB, m2, m1, mVar, List.getElem?_cons_succ, List.getElem?_cons_zero, bindR_ok, e1, e2, eqA_int, decide_eq_false q, isB, bindS_ok, sRet, Bool.false_eq_true, if_false, sNil]
      rw [st]
      unfold heldG
      rw [if_neg q]
      exact ih
theorem held_i (E : Enc ix s h) (f : Int) : m_Store_held_for [.ref (ix .st), .int f] h = .ok (heldM (heldG f s.mo)) h := by
  have em := E.mo
  generalize hL : encA MV.int (fun f (_ : Mv) => MV.ref (ix (.mvf f))) s.mo = L at em
  have go := held_go E f (.fdc L) s.mo none fun p hp => aget_of_mem (okL_nod E.oks.mo) hp
  have fm := fld_mo E
  have fm2 : mFld [0] (Str.ofString "own_moves") (.ref (ix .st)) (h.set (ix .mo) (.fdc L)) = .ok (.ref (ix .mo)) (h.set (ix .mo) (.fdc L)) := fld_at (E.gs (r := .st) (r0 := .mo) rfl rfl (by intro q; cases q)) rfl rfl
  have lt := (List.getElem?_eq_some_iff.mp em).1
  have e0 : (h.set (ix .mo) (.fdc L))[ix .mo]? = some (.fdc L) := List.getElem?_set_self lt
  have snd : L.map (·.2) = s.mo.map fun p => MV.ref (ix (.mvf p.1)) := by rw [← hL, snd_enc]
  have l1 : lkH (.ref (ix .mo)) h = some (ix .mo, h.set (ix .mo) (.fdc L)) := by
    unfold lkH; simp only [em]; rfl
  have l2 : ulkH (ix .mo) (h.set (ix .mo) (.fdc L)) = some h := by
    unfold ulkH; simp only [e0, ulkO, lk_set em]
  have main : mb_Store_held_for [some (.ref (ix .st)), some (.int f), none] h = .rt (heldM (heldG f s.mo)) h := by
    unfold mb_Store_held_for
    simp only [sSeq, sLk, sFor, iVR, m1, mVar, List.getElem?_cons_zero, bindR_ok, bindS_ok, fm, fm2, l1, itVR, e0, snd]
    cases hg : heldG f s.mo with
    | some j =>
      simp only [go.1 j hg, l2]
      rfl
    | none =>
      obtain ⟨z', e⟩ := go.2 hg
      simp only [e, l2]
      rfl
  exact fnM_rt main
theorem coll_dtt {n : Nat} {l : List (Spt × Bool)} (e : h[n]? = some (.dtt (encA kS blA l))) : collM (.ref n) h = some ((l.map (·.1)).map kS) := by
  unfold collM asL asD asTD
  simp only [e, fst_enc, List.map_map]
  rfl
theorem srt_spots {fin : List MV → MH → R MV} {n : Nat} {l : List (Spt × Bool)} (e : h[n]? = some (.dtt (encA kS blA l))) (ok : okL l = true) : mSrt fin [.ref n] h = fin ((isrt leS2 (l.map (·.1))).map kS) h := by
  refine srt_of (d := fun p => ddP (spD p)) (coll_dtt e) (fun p _ => toD_dd h 12 (spD p) (by show 1 < 12; decide)) ?_ (fun a _ b _ => leS2_M a b _ _) leS2_tr leS2_to (fun a _ b _ => leS2_an a b)
  refine sok_tup (fun a _ b _ => rfl) (fun a _ => rfl) (fun a _ => ?_) ?_
  · have := dep_dd (spD a)
    have := dep_sp a
    omega
  · rw [List.length_map]
    exact Nat.le_of_lt (Nat.lt_trans (okL_len ok) (by decide))
theorem tup1_lv (l : List MV) (h : MH) : mTup1 (.lv l) h = .ok (.tup l) h := rfl
theorem ddM_sps (l : List Spt) : ddMs (l.map spD) = l.map kS := by rw [ddMs_map, List.map_map]; rfl
theorem what_i (E : Enc ix s h) (W : wsB s = true) (f : Int) (z0 : 0 ≤ f) (z1 : f < s.size) : m_Store_what [.ref (ix .st), .int f] h = .ok (ddM (whD s f)) h := by
  refine fnM_rt ?_
  show mb_Store_what [some (.ref (ix .st)), some (.int f)] h = _
  have fr := cF_val0 (n := 2) rfl (frame_i s.size f h)
  rw [decide_eq_true z0, decide_eq_true (show f ≤ s.size - 1 by omega)] at fr
  have ih := in_dct false E.ho keyM_int mk_int f
  have ik := in_dct false E.ke keyM_int mk_int f
  have iw := in_dct false E.wo keyM_int mk_int f
  simp only [Bool.false_eq_true, if_false] at ih ik iw
  have hd := cF_val0 (n := 2) rfl (held_i E f)
  have mh : ∀ σ : Lo, σ[0]? = some (some (.ref (ix .st))) → σ[1]? = some (some (.int f)) → mMethC 0 (Str.ofString "held_for") (mVar 0) (mCons (mVar 1) mNil) (fun v as h => cF 2 m_Store_held_for (v :: (as ++ [])) h) σ h = .ok (heldM (heldG f s.mo)) h := fun σ s0 s1 => by
    rw [meth0 E (as := [.int f]) (h2 := h) (by simp only [mVar, s0]) (by simp only [mCons, mVar, s1, bindR_ok, mNil]) rfl]
    exact hd
  have mh' := mh [some (.ref (ix .st)), some (.int f)] rfl rfl
  unfold mb_Store_what whD
  cases e1 : aget f s.ho with
  | some b =>
    rw [e1] at ih
    simp only [sSeq, sIf, sExpr, sRet, sSet, sNil, sPass, mNot, mAnd, mOr, mTru, mN, mCons, mNil, m1, m2, m3c, mVar, mC, mB, isB, isTru, List.getElem?_cons_zero, List.getElem?_cons_succ, List.set_cons_zero, List.set_cons_succ, bindR_ok, bindS_ok, Option.isSome_some, Option.isSome_none, Bool.and_self, Bool.not_true, Bool.not_false, Bool.false_eq_true, if_true, if_false, mInC, mNotInC, List.cons_append, List.nil_append, fld_size E, fld_ho E, fr, ih]
    rfl
  | none =>
    rw [e1] at ih
    cases e2 : aget f s.ke with
    | some w =>
      rw [e2] at ik
      simp only [sSeq, sIf, sExpr, sRet, sSet, sNil, sPass, mNot, mAnd, mOr, mTru, mN, mCons, mNil, m1, m2, m3c, mVar, mC, mB, isB, isTru, List.getElem?_cons_zero, List.getElem?_cons_succ, List.set_cons_zero, List.set_cons_succ, bindR_ok, bindS_ok, Option.isSome_some, Option.isSome_none, Bool.and_self, Bool.not_true, Bool.not_false, Bool.false_eq_true, if_true, if_false, mInC, mNotInC, List.cons_append, List.nil_append, fld_size E, fld_ho E, fld_ke E, fr, ih, ik, ix_dct E.ke keyM_int mk_int e2]
      rfl
    | none =>
      rw [e2] at ik
      cases e3 : heldG f s.mo with
      | some j =>
        rw [e3] at mh'
        simp only [sSeq, sIf, sExpr, sRet, sSet, sNil, sPass, mNot, mAnd, mOr, mTru, mN, mCons, mNil, m1, m2, m3c, mVar, mC, mB, isB, isTru, List.getElem?_cons_zero, List.getElem?_cons_succ, List.set_cons_zero, List.set_cons_succ, bindR_ok, bindS_ok, Option.isSome_some, Option.isSome_none, Bool.and_self, Bool.not_true, Bool.not_false, Bool.false_eq_true, if_true, if_false, mInC, mNotInC, List.cons_append, List.nil_append, fld_size E, fld_ho E, fld_ke E, fr, ih, ik, mh', heldM, mIsNot, mIsN]
        rfl
      | none =>
        rw [e3] at mh'
        cases e4 : aget f s.wo with
        | some w =>
          rw [e4] at iw
          obtain ⟨l, el⟩ := ws_of W e4
          simp only [sSeq, sIf, sExpr, sRet, sSet, sNil, sPass, mNot, mAnd, mOr, mTru, mN, mCons, mNil, m1, m2, m3c, mVar, mC, mB, isB, isTru, List.getElem?_cons_zero, List.getElem?_cons_succ, List.set_cons_zero, List.set_cons_succ, bindR_ok, bindS_ok, Option.isSome_some, Option.isSome_none, Bool.and_self, Bool.not_true, Bool.not_false, Bool.false_eq_true, if_true, if_false, mInC, mNotInC, List.cons_append, List.nil_append, fld_size E, fld_ho E, fld_ke E, fld_wo E, fld_sp E, fr, ih, ik, iw, mh', heldM, mIsNot, mIsN, ix_dct E.wo keyM_int mk_int e4, ix_dct E.sp keyM_int mk_int el, srt_spots (E.spf el) (E.oks.spf f l el), finV, tup1_lv]
          simp only [ddM, ddMs, ddM_sps, sptS, el, Option.getD_some]
          rfl
        | none =>
          rw [e4] at iw
          simp only [sSeq, sIf, sExpr, sRet, sSet, sNil, sPass, mNot, mAnd, mOr, mTru, mN, mCons, mNil, m1, m2, m3c, mVar, mC, mB, isB, isTru, List.getElem?_cons_zero, List.getElem?_cons_succ, List.set_cons_zero, List.set_cons_succ, bindR_ok, bindS_ok, Option.isSome_some, Option.isSome_none, Bool.and_self, Bool.not_true, Bool.not_false, Bool.false_eq_true, if_true, if_false, mInC, mNotInC, List.cons_append, List.nil_append, fld_size E, fld_ho E, fld_ke E, fld_wo E, fr, ih, ik, iw, mh', heldM, mIsNot, mIsN]
          rfl
theorem whatF (E : Enc ix s h) (W : wsB s = true) (f : Int) (z0 : 0 ≤ f) (z1 : f < s.size) : cF 2 m_Store_what [.ref (ix .st), .int f] h = .ok (ddM (whD s f)) h := cF_val0 rfl (what_i E W f z0 z1)
theorem free_i (E : Enc ix s h) (W : wsB s = true) : m_Store_free [.ref (ix .st)] h = .ok (.ref h.length) (h ++ [.lst ((freeP s).map .int)]) := by
  refine fnM_rt ?_
  show mb_Store_free [some (.ref (ix .st)), none] h = _
  have z64 := E.oks.z64
  have z0 := E.oks.z0
  have ib : inB s.size = true := inB_of (by omega) (by omega)
  have ln : ((rngI s.size).map MV.int).length ≤ SZ := by
    rw [List.length_map, rng_len]
    exact Nat.le_trans (show s.size.toNat ≤ 64 by omega) (by decide)
  unfold mb_Store_free mLc
  simp only [sRet, m1, mCons, mVar, mNil, List.getElem?_cons_zero, bindR_ok, fld_size E, itR1, ib, if_true, rg_rng, if_pos ln]
  have go : lcGo (fun _ => true) (.nm 1) lt_Store_free_0 le_Store_free_0 ((rngI s.size).map .int) (clrL [1] [some (.ref (ix .st)), none]) h = .ok ((freeP s).map .int) h := by
    refine lcGo_map rfl fun f hf => ?_
    obtain ⟨q0, q1⟩ := rng_mem.mp hf
    refine ⟨[some (.ref (ix .st)), some (.int f)], rfl, ?_, fun _ => rfl⟩
    unfold lt_Store_free_0
    have m := meth0 E (mn := Str.ofString "what") (ro := mVar 0) (rs := mCons (mVar 1) mNil) (fn := fun v as h => cF 2 m_Store_what (v :: (as ++ [])) h) (σ := [some (.ref (ix .st)), some (.int f)]) (as := [.int f]) (h2 := h) rfl rfl rfl
    have w := whatF E W f q0 q1
    have eq := eqA_dd (x := whD s f) (y := frD) (by have := dep_wh s f; omega) (by decide) h
    rw [fr_wh] at eq
    simp only [mB, m2, mN, m.trans w, bindR_ok, mCons, mC, mNil]
    show bindR (bindR (R.ok (ddM frD) h) fun b h2 => mEqA (ddM (whD s f)) b h2) isB = _
    rw [bindR_ok, eq]
    rfl
  rw [go]
  rfl
theorem freeF (E : Enc ix s h) (W : wsB s = true) : cF 1 m_Store_free [.ref (ix .st)] h = .ok (.lv ((freeP s).map .int)) h := cF_new rfl (free_i E W) (by simp)
end
end MP
namespace MP
open PySem PySem.Spec PyProof.Rows L2
theorem cF_dct {n : Nat} {m : List MV → MH → R MV} {as : List MV} {h : MH} {l : List (MV × MV)} (hl : as.length = n) (e : m as h = .ok (.ref h.length) (h ++ [.dct l])) (p : pureVs (l.map (·.2)) = true) : cF n m as h = .ok (.dv (l.map (·.1)) (l.map (·.2))) h := by
  unfold cF; rw [if_pos hl, e, bindR_ok]
  have z : ¬ (h ++ [MO.dct l]).length ≤ h.length := by rw [List.length_append]; simp
  unfold gcF
  rw [if_neg z, if_pos (kept_app h [.dct l])]
  have e3 : frV (h ++ [.dct l]) h.length 12 (.ref h.length) = some (.dv (l.map (·.1)) (l.map (·.2))) := by
    rw [frV]
    have : clV h.length (.ref h.length) = false := by rw [clV]; simp
    rw [this]
    simp only [Bool.false_eq_true, if_false, get_new, frs_pure _ _ _ p, Option.map_some]
  rw [e3, take_app]
theorem asD_dv (l : List (MV × MV)) (h : MH) : asD (.dv (l.map (·.1)) (l.map (·.2))) h = some l := by
  show some _ = _
  rw [zip_enc]
section
variable {ix : Ro → Nat} {s : Sto} {h : MH}
theorem methS (E : Enc ix s h) {mn : Str} {rs : AM} {fn : MV → List MV → MH → R MV} {σ : Lo} {i : Nat} (n : ((stF ix s.size).lookup mn).isNone = true) (hs : σ[i]? = some (some (.ref (ix .st)))) :
    mMethC 0 mn (mVar i) rs fn σ h = bindR (rs σ h) fun as h2 => fn (.ref (ix .st)) as h2 := by
  unfold mMethC
  simp only [mVar, hs, bindR_ok, E.st, n]
  rfl
theorem table_of_i (E : Enc ix s h) {w : Tn} {t} (e : aget w s.ta = some t) : m_Store_table_of [.ref (ix .st), kW w] h = .ok (.ref (ix (.tab w))) h := by
  refine fnM_rt ?_
  show mb_Store_table_of [some (.ref (ix .st)), some (kW w)] h = _
  have i := in_dct true E.ta keyM_wd mk_wd w
  rw [e] at i
  have t0 : isT .str (kW w) h = .ok (.bl true) h := rfl
  unfold mb_Store_table_of
  simp only [sSeq, sIf, sExpr, sRet, sSet, sNil, sPass, mNot, mAnd, mOr, mTru, mN, mCons, mNil, m1, m2, m3c, mVar, mC, mB, isB, isTru, List.getElem?_cons_zero, List.getElem?_cons_succ, List.set_cons_zero, List.set_cons_succ, bindR_ok, bindS_ok, Option.isSome_some, Option.isSome_none, Bool.and_self, Bool.not_true, Bool.not_false, Bool.false_eq_true, if_true, if_false, mInC, mNotInC, List.cons_append, List.nil_append, t0, fld_ta E, i, ix_dct E.ta keyM_wd mk_wd e]
theorem table_ofF (E : Enc ix s h) {w : Tn} {t} (e : aget w s.ta = some t) : cF 2 m_Store_table_of [.ref (ix .st), kW w] h = .ok (.ref (ix (.tab w))) h := cF_val0 rfl (table_of_i E e)
theorem entry_i (E : Enc ix s h) {w : Tn} {t} (e : aget w s.ta = some t) {a : Int} {d : Ent} (ea : aget a t = some d) (z0 : 0 ≤ a) (z1 : a ≤ 31) : m_Store_entry_at [.ref (ix .st), kW w, .int a] h = .ok (entM d) h := by
  refine fnM_rt ?_
  show mb_Store_entry_at [some (.ref (ix .st)), some (kW w), some (.int a), none] h = _
  have i := in_dct true (E.tab e) keyM_int mk_int a
  rw [ea] at i
  have la := cF_val0 (n := 1) rfl (addr_i a h z0 z1)
  unfold mb_Store_entry_at
  simp only [sSeq, sIf, sExpr, sRet, sSet, sNil, sPass, mNot, mAnd, mOr, mTru, mN, mCons, mNil, m1, m2, m3c, mVar, mC, mB, isB, isTru, List.getElem?_cons_zero, List.getElem?_cons_succ, List.set_cons_zero, List.set_cons_succ, bindR_ok, bindS_ok, Option.isSome_some, Option.isSome_none, Bool.and_self, Bool.not_true, Bool.not_false, Bool.false_eq_true, if_true, if_false, mInC, mNotInC, List.cons_append, List.nil_append, methS E (mn := Str.ofString "table_of") rfl, table_ofF E e, la, i, ix_dct (E.tab e) keyM_int mk_int ea]
  rfl
theorem entryF (E : Enc ix s h) {w : Tn} {t} (e : aget w s.ta = some t) {a : Int} {d : Ent} (ea : aget a t = some d) (z0 : 0 ≤ a) (z1 : a ≤ 31) : cF 3 m_Store_entry_at [.ref (ix .st), kW w, .int a] h = .ok (entM d) h := cF_val0 rfl (entry_i E e ea z0 z1)
theorem ix_tup0 (v : MV) (l : List MV) (h : MH) : mIxA (.tup (v :: l)) (.int 0) h = .ok v h := by
  unfold mIxA isDk asD mIx asS atI
  simp only [Option.isSome_none, Bool.false_eq_true, if_false, L2.ixN]
  simp
theorem read_i (E : Enc ix s h) {w : Tn} {t} (e : aget w s.ta = some t) {a : Int} {d : Ent} (ea : aget a t = some d) (z0 : 0 ≤ a) (z1 : a ≤ 31) {x : Int} (ex : aget d.1 s.wo = some x) : m_Store_read [.ref (ix .st), kW w, .int a] h = .ok (.int x) h := by
  refine fnM_rt ?_
  show mb_Store_read [some (.ref (ix .st)), some (kW w), some (.int a)] h = _
  have i0 : mIxA (entM d) (.int 0) h = .ok (.int d.1) h := ix_tup0 _ _ h
  unfold mb_Store_read
  simp only [sSeq, sIf, sExpr, sRet, sSet, sNil, sPass, mNot, mAnd, mOr, mTru, mN, mCons, mNil, m1, m2, m3c, mVar, mC, mB, isB, isTru, List.getElem?_cons_zero, List.getElem?_cons_succ, List.set_cons_zero, List.set_cons_succ, bindR_ok, bindS_ok, Option.isSome_some, Option.isSome_none, Bool.and_self, Bool.not_true, Bool.not_false, Bool.false_eq_true, if_true, if_false, mInC, mNotInC, List.cons_append, List.nil_append, fld_wo E, methS E (mn := Str.ofString "entry_at") rfl, entryF E e ea z0 z1, i0, ix_dct E.wo keyM_int mk_int ex]
  rfl
theorem readF (E : Enc ix s h) {w : Tn} {t} (e : aget w s.ta = some t) {a : Int} {d : Ent} (ea : aget a t = some d) (z0 : 0 ≤ a) (z1 : a ≤ 31) {x : Int} (ex : aget d.1 s.wo = some x) : cF 3 m_Store_read [.ref (ix .st), kW w, .int a] h = .ok (.int x) h := cF_val0 rfl (read_i E e ea z0 z1 ex)
theorem move_of_i (E : Enc ix s h) {f : Int} {m} (e : aget f s.mo = some m) : m_Store_move_of [.ref (ix .st), .int f] h = .ok (.ref (ix (.mvf f))) h := by
  refine fnM_rt ?_
  show mb_Store_move_of [some (.ref (ix .st)), some (.int f)] h = _
  have i := in_dct true E.mo keyM_int mk_int f
  rw [e] at i
  have wh := cF_val0 (n := 1) rfl (whole_i f h)
  unfold mb_Store_move_of
  simp only [sSeq, sIf, sExpr, sRet, sSet, sNil, sPass, mNot, mAnd, mOr, mTru, mN, mCons, mNil, m1, m2, m3c, mVar, mC, mB, isB, isTru, List.getElem?_cons_zero, List.getElem?_cons_succ, List.set_cons_zero, List.set_cons_succ, bindR_ok, bindS_ok, Option.isSome_some, Option.isSome_none, Bool.and_self, Bool.not_true, Bool.not_false, Bool.false_eq_true, if_true, if_false, mInC, mNotInC, List.cons_append, List.nil_append, wh, fld_mo E, i, ix_dct E.mo keyM_int mk_int e]
theorem move_ofF (E : Enc ix s h) {f : Int} {m} (e : aget f s.mo = some m) : cF 2 m_Store_move_of [.ref (ix .st), .int f] h = .ok (.ref (ix (.mvf f))) h := cF_val0 rfl (move_of_i E e)
noncomputable def leA {α : Type} (p q : Int × α) : Bool := decide (p.1 ≤ q.1)
theorem leA_tr {α : Type} : ∀ a b c : Int × α, leA a b = true → leA b c = true → leA a c = true := fun a b c h1 h2 => decide_eq_true (Int.le_trans (of_decide_eq_true h1) (of_decide_eq_true h2))
theorem leA_to {α : Type} : ∀ a b : Int × α, (leA a b || leA b a) = true := fun a b => by
  unfold leA
  rcases Int.le_total a.1 b.1 with c | c
  · rw [decide_eq_true c]; rfl
  · rw [decide_eq_true c, Bool.or_true]
theorem leA_an {α : Type} {l : List (Int × α)} (nd : nodA l = true) : ∀ a ∈ l, ∀ b ∈ l, leA a b = true → leA b a = true → a = b := fun a ha b hb h1 h2 => by
  have e : a.1 = b.1 := Int.le_antisymm (of_decide_eq_true h1) (of_decide_eq_true h2)
  have g1 := aget_of_mem nd (k := a.1) (v := a.2) ha
  have g2 := aget_of_mem nd (k := b.1) (v := b.2) hb
  rw [← e, g1] at g2
  exact Prod.ext e (Option.some.inj g2)
theorem same_key {α : Type} {l : List (Int × α)} (nd : nodA l = true) {a b : Int × α} (ha : a ∈ l) (hb : b ∈ l) (e : a.1 = b.1) : a = b :=
  leA_an nd a ha b hb (decide_eq_true (by omega)) (decide_eq_true (by omega))
/-- sorted, by a number ahead that no two have alike -/
theorem leA_M {α : Type} {l : List (Int × α)} (nd : nodA l = true) (g : Int × α → List Dd) : ∀ a ∈ l, ∀ b ∈ l, leA a b = leM (ddM (.tup (.int a.1 :: g a)), ddP (.tup (.int a.1 :: g a))) (ddM (.tup (.int b.1 :: g b)), ddP (.tup (.int b.1 :: g b))) := fun a ha b hb => by
  by_cases e : a.1 = b.1
  · have := same_key nd ha hb e
    subst this
    rw [leM_self]
    exact decide_eq_true (Int.le_refl _)
  · exact leF_M _ _ e
noncomputable def ddA {κ : Type} (_ : κ) (d : Dd) : MV := ddM d
noncomputable def teD (s : Sto) (w : Tn) (a : Int) (e : Ent) : Option Dd :=
  if e.2.2 = true then (if a % 4 = 0 then some (.tup [.st .great, .int e.1, .st (rtS e.2.1)]) else none)
  else match aget e.1 s.mo with
    | none => some (.tup [.st .small, .int e.1, .st (rtS e.2.1)])
    | some m => if (aget (w, a) m.rt).isSome = true then some (.tup [.st .small, .int m.to, .st (rtS e.2.1)]) else some (.tup [.st .moving, .int e.1, .st (rtS e.2.1)])
noncomputable def tabG (s : Sto) (w : Tn) : List (Int × Ent) → List (Int × Dd) → List (Int × Dd)
  | [], acc => acc
  | (a, e) :: r, acc => match teD s w a e with
    | some d => tabG s w r (aput a d acc)
    | none => tabG s w r acc
noncomputable def tabP (s : Sto) (w : Tn) (t : List (Int × Ent)) : List (Int × Dd) := tabG s w (isrt leA t) []
theorem items_i (e : h[n]? = some (.dct (encA .int entA t))) (ok : okL t = true) : mSrtI finV (.ref n) h = .ok (.lv ((isrt leA t).map fun p => ddM (.tup [.int p.1, enD p.2]))) h := by
  have a : asD (.ref n) h = some (encA .int entA t) := by unfold asD; simp only [e]
  have m : (encA MV.int entA t).map (fun p => MV.tup [p.1, p.2]) = t.map fun p => ddM (.tup [.int p.1, enD p.2]) := by
    unfold encA; rw [List.map_map]; rfl
  have d2 : ∀ p : Int × Ent, depD (.tup [.int p.1, enD p.2]) ≤ 2 := fun p => Nat.le_refl _
  have d3 : mapO (toD h 12) (t.map fun p => ddM (.tup [.int p.1, enD p.2])) = some (t.map fun p => ddP (.tup [.int p.1, enD p.2])) := mapO_map fun p _ => toD_dd h 12 _ (Nat.lt_of_le_of_lt (d2 p) (by decide))
  have so : sokB (t.map fun p => ddP (.tup [.int p.1, enD p.2])) = true := by
    refine sok_tup (fun a _ b _ => rfl) (fun a _ => rfl) (fun a _ => ?_) (Nat.le_of_lt (Nat.lt_trans (okL_len ok) (by decide)))
    have := dep_dd (.tup [.int a.1, enD a.2])
    have := d2 a
    omega
  unfold mSrtI
  simp only [a, m, d3, so, if_true, finV]
  rw [sortMD_map (leA_M (okL_nod ok) fun p => [enD p.2]) leA_tr leA_to (leA_an (okL_nod ok))]
theorem tab_go (E : Enc ix s h) (w : Tn) : ∀ (r : List (Int × Ent)) (acc : List (Int × Dd)) (z3 z4 z5 z6 z7 : Option MV), nodA acc = true → acc.length + r.length < 1000 → ∃ y3 y4 y5 y6 y7,
    forGo (fun _ => true) (gmTup (gmCons (gmName 3) (gmCons (gmTup (gmCons (gmName 4) (gmCons (gmName 5) (gmCons (gmName 6) gmNil))) 3) gmNil)) 2) lb_Store_table_0 (r.map fun p => ddM (.tup [.int p.1, enD p.2]))
      [some (.ref (ix .st)), some (kW w), some (.ref h.length), z3, z4, z5, z6, z7] (h ++ [.dct (encA .int ddA acc)]) =
    .nx [some (.ref (ix .st)), some (kW w), some (.ref h.length), y3, y4, y5, y6, y7] (h ++ [.dct (encA .int ddA (tabG s w r acc))])
  | [], acc, z3, z4, z5, z6, z7, _, _ => ⟨z3, z4, z5, z6, z7, rfl⟩
  | (a, f, b, g) :: r, acc, z3, z4, z5, z6, z7, nd, ln => by
    have E' := E.grow [.dct (encA .int ddA acc)]
    rw [List.length_cons] at ln
    -- what the body does, by the value told
    suffices T : ∃ x7, lb_Store_table_0 [some (.ref (ix .st)), some (kW w), some (.ref h.length), some (.int a), some (.int f), some (.str (rtS b).str), some (.bl g), z7] (h ++ [.dct (encA .int ddA acc)]) =
        .nx [some (.ref (ix .st)), some (kW w), some (.ref h.length), some (.int a), some (.int f), some (.str (rtS b).str), some (.bl g), x7] (h ++ [.dct (encA .int ddA (match teD s w a (f, b, g) with | some d => aput a d acc | none => acc))]) by
      obtain ⟨x7, e⟩ := T
      have gm : gmTup (gmCons (gmName 3) (gmCons (gmTup (gmCons (gmName 4) (gmCons (gmName 5) (gmCons (gmName 6) gmNil))) 3) gmNil)) 2 (ddM (.tup [.int a, enD (f, b, g)])) [some (.ref (ix .st)), some (kW w), some (.ref h.length), z3, z4, z5, z6, z7] (h ++ [.dct (encA .int ddA acc)]) =
        .ok [some (.ref (ix .st)), some (kW w), some (.ref h.length), some (.int a), some (.int f), some (.str (rtS b).str), some (.bl g), z7] (h ++ [.dct (encA .int ddA acc)]) := rfl
      unfold tabG
      rw [List.map_cons, forGo, if_pos rfl, gm]
      simp only [e]
      cases teD s w a (f, b, g) with
      | some d => exact tab_go E w r (aput a d acc) _ _ _ _ _ (nod_aput a d nd) (by have := len_aput a d acc; omega)
      | none => exact tab_go E w r acc _ _ _ _ _ nd (by omega)
    have gt := get_dct E'.mo keyM_int mk_int f
    have dk := dk_dct E'.mo
    have md := mod_int a 4 (h ++ [.dct (encA .int ddA acc)]) (by decide)
    have okA : okL acc = true := by unfold okL sml; rw [nd, decide_eq_true (by omega)]; rfl
    have st : ∀ (d : Dd) (re : EM) (σ : Lo), re σ (h ++ [.dct (encA .int ddA acc)]) = .ok (ddM d) (h ++ [.dct (encA .int ddA acc)]) → σ[2]? = some (some (.ref h.length)) → σ[3]? = some (some (.int a)) →
        sSetC re (mVar 2) (mVar 3) σ (h ++ [.dct (encA .int ddA acc)]) = .nx σ (h ++ [.dct (encA .int ddA (aput a d acc))]) := fun d re σ e s2 s3 => by
      rw [set_dct (km := MV.int) (f := ddA) (l := acc) (k := a) (x := ddM d) e (by simp only [mVar, s2]) (by simp only [mVar, s3]) (get_new h _) keyM_int mk_int okA, put_enc (f := ddA) (v := d) (x := ddM d) keyM_int rfl nd, set_new]
    unfold lb_Store_table_0
    cases g with
    | true =>
      by_cases q : a % 4 = 0
      · refine ⟨some (((aget f s.mo).map fun _ => MV.ref (ix (.mvf f))).getD .non), ?_⟩
        have t0 : teD s w a (f, b, true) = some (.tup [.st .great, .int f, .st (rtS b)]) := by unfold teD; rw [if_pos rfl, if_pos q]
        rw [t0]
        simp only [sSeq, sIf, sExpr, sRet, sSet, sNil, sPass, mNot, mAnd, mOr, mTru, mN, mCons, mNil, m1, m2, m3c, mVar, mC, mB, isB, isTru, List.getElem?_cons_zero, List.getElem?_cons_succ, List.set_cons_zero, List.set_cons_succ, bindR_ok, bindS_ok, Option.isSome_some, Option.isSome_none, Bool.and_self, Bool.not_true, Bool.not_false, Bool.false_eq_true, if_true, if_false, mInC, mNotInC, List.cons_append, List.nil_append, m2D, fld_mo E', gt, dk, md, c_STRETCH, eqA_int, decide_eq_true q, if_pos]
        exact st _ _ _ rfl rfl rfl
      · refine ⟨some (((aget f s.mo).map fun _ => MV.ref (ix (.mvf f))).getD .non), ?_⟩
        have t0 : teD s w a (f, b, true) = none := by unfold teD; rw [if_pos rfl, if_neg q]
        rw [t0]
        simp only [sSeq, sIf, sExpr, sRet, sSet, sNil, sPass, mNot, mAnd, mOr, mTru, mN, mCons, mNil, m1, m2, m3c, mVar, mC, mB, isB, isTru, List.getElem?_cons_zero, List.getElem?_cons_succ, List.set_cons_zero, List.set_cons_succ, bindR_ok, bindS_ok, Option.isSome_some, Option.isSome_none, Bool.and_self, Bool.not_true, Bool.not_false, Bool.false_eq_true, if_true, if_false, mInC, mNotInC, List.cons_append, List.nil_append, m2D, fld_mo E', gt, dk, md, c_STRETCH, eqA_int, decide_eq_false q]
        all_goals rfl
    | false =>
      cases em : aget f s.mo with
      | none =>
        refine ⟨some .non, ?_⟩
        have t0 : teD s w a (f, b, false) = some (.tup [.st .small, .int f, .st (rtS b)]) := by unfold teD; simp only [em, Bool.false_eq_true, if_false]
        rw [t0]
        rw [em] at gt
        simp only [sSeq, sIf, sExpr, sRet, sSet, sNil, sPass, mNot, mAnd, mOr, mTru, mN, mCons, mNil, m1, m2, m3c, mVar, mC, mB, isB, isTru, List.getElem?_cons_zero, List.getElem?_cons_succ, List.set_cons_zero, List.set_cons_succ, bindR_ok, bindS_ok, Option.isSome_some, Option.isSome_none, Bool.and_self, Bool.not_true, Bool.not_false, Bool.false_eq_true, if_true, if_false, mInC, mNotInC, List.cons_append, List.nil_append, m2D, fld_mo E', gt, dk, Option.map_none, Option.getD_none, mIs, mIsN]
        exact st _ _ _ rfl rfl rfl
      | some m =>
        have io := in_dtt false (E'.rtf em) (w, a)
        rw [em] at gt
        cases er : aget (w, a) m.rt with
        | some _ =>
          refine ⟨some (.ref (ix (.mvf f))), ?_⟩
          rw [er] at io
          have io' : mInCX false (.tup [kW w, .int a]) (.ref (ix (.rtf f))) (h ++ [.dct (encA .int ddA acc)]) = .ok (.bl true) (h ++ [.dct (encA .int ddA acc)]) := io
          have t0 : teD s w a (f, b, false) = some (.tup [.st .small, .int m.to, .st (rtS b)]) := by unfold teD; simp only [em, er, Bool.false_eq_true, if_false, Option.isSome_some, if_true]
          rw [t0]
          simp only [sSeq, sIf, sExpr, sRet, sSet, sNil, sPass, mNot, mAnd, mOr, mTru, mN, mCons, mNil, m1, m2, m3c, mVar, mC, mB, isB, isTru, List.getElem?_cons_zero, List.getElem?_cons_succ, List.set_cons_zero, List.set_cons_succ, bindR_ok, bindS_ok, Option.isSome_some, Option.isSome_none, Bool.and_self, Bool.not_true, Bool.not_false, Bool.false_eq_true, if_true, if_false, mInC, mNotInC, List.cons_append, List.nil_append, m2D, fld_mo E', gt, dk, Option.map_some, Option.getD_some, mIs, mIsN, mkTup, List.length_cons, List.length_nil, show (0 + 1 + 1 ≤ SZ) = True from eq_true (by decide), fld_rt E' em, io']
          refine st (.tup [.st .small, .int m.to, .st (rtS b)]) _ _ ?_ rfl rfl
          simp only [sSeq, sIf, sExpr, sRet, sSet, sNil, sPass, mNot, mAnd, mOr, mTru, mN, mCons, mNil, m1, m2, m3c, mVar, mC, mB, isB, isTru, List.getElem?_cons_zero, List.getElem?_cons_succ, List.set_cons_zero, List.set_cons_succ, bindR_ok, bindS_ok, Option.isSome_some, Option.isSome_none, Bool.and_self, Bool.not_true, Bool.not_false, Bool.false_eq_true, if_true, if_false, mInC, mNotInC, List.cons_append, List.nil_append, fld_to E' em, mkTup, List.length_cons, List.length_nil, show (0 + 1 + 1 + 1 ≤ SZ) = True from eq_true (by decide)]
          rfl
        | none =>
          refine ⟨some (.ref (ix (.mvf f))), ?_⟩
          rw [er] at io
          have io' : mInCX false (.tup [kW w, .int a]) (.ref (ix (.rtf f))) (h ++ [.dct (encA .int ddA acc)]) = .ok (.bl false) (h ++ [.dct (encA .int ddA acc)]) := io
          have t0 : teD s w a (f, b, false) = some (.tup [.st .moving, .int f, .st (rtS b)]) := by unfold teD; simp only [em, er, Bool.false_eq_true, if_false, Option.isSome_none]
          rw [t0]
          simp only [sSeq, sIf, sExpr, sRet, sSet, sNil, sPass, mNot, mAnd, mOr, mTru, mN, mCons, mNil, m1, m2, m3c, mVar, mC, mB, isB, isTru, List.getElem?_cons_zero, List.getElem?_cons_succ, List.set_cons_zero, List.set_cons_succ, bindR_ok, bindS_ok, Option.isSome_some, Option.isSome_none, Bool.and_self, Bool.not_true, Bool.not_false, Bool.false_eq_true, if_true, if_false, mInC, mNotInC, List.cons_append, List.nil_append, m2D, fld_mo E', gt, dk, Option.map_some, Option.getD_some, mIs, mIsN, mkTup, List.length_cons, List.length_nil, show (0 + 1 + 1 ≤ SZ) = True from eq_true (by decide), fld_rt E' em, io']
          exact st (.tup [.st .moving, .int f, .st (rtS b)]) _ _ rfl rfl rfl
theorem table_i (E : Enc ix s h) {w : Tn} {t} (e : aget w s.ta = some t) : m_Store_table [.ref (ix .st), kW w] h = .ok (.ref h.length) (h ++ [.dct (encA .int ddA (tabP s w t))]) := by
  refine fnM_rt ?_
  show mb_Store_table [some (.ref (ix .st)), some (kW w), none, none, none, none, none, none] h = _
  have ok := E.oks.tab w t e
  have E' := E.grow [.dct []]
  obtain ⟨y3, y4, y5, y6, y7, go⟩ := tab_go E w (isrt leA t) [] none none none none none rfl (by rw [(isrt_perm leA t).length_eq]; have := okL_len ok; simpa using this)
  unfold mb_Store_table
  simp only [sSeq, sIf, sExpr, sRet, sSet, sNil, sPass, mNot, mAnd, mOr, mTru, mN, mCons, mNil, m1, m2, m3c, mVar, mC, mB, isB, isTru, List.getElem?_cons_zero, List.getElem?_cons_succ, List.set_cons_zero, List.set_cons_succ, bindR_ok, bindS_ok, Option.isSome_some, Option.isSome_none, Bool.and_self, Bool.not_true, Bool.not_false, Bool.false_eq_true, if_true, if_false, mInC, mNotInC, List.cons_append, List.nil_append, mDict, sFor, iL, methS E' (mn := Str.ofString "table_of") rfl, table_ofF E' e, items_i (E'.tab e) ok, itL]
  have go' : forGo (fun _ => true) (gmTup (gmCons (gmName 3) (gmCons (gmTup (gmCons (gmName 4) (gmCons (gmName 5) (gmCons (gmName 6) gmNil))) 3) gmNil)) 2) lb_Store_table_0 ((isrt leA t).map fun p => ddM (.tup [.int p.1, enD p.2]))
      [some (.ref (ix .st)), some (kW w), some (.ref h.length), none, none, none, none, none] (h ++ [.dct []]) = .nx [some (.ref (ix .st)), some (kW w), some (.ref h.length), y3, y4, y5, y6, y7] (h ++ [.dct (encA .int ddA (tabP s w t))]) := go
  simp only [go']
  rfl
noncomputable def tabM (l : List (Int × Dd)) : MV := .dv ((encA .int ddA l).map (·.1)) ((encA .int ddA l).map (·.2))
theorem pure_ddA (l : List (Int × Dd)) : pureVs ((encA MV.int ddA l).map (·.2)) = true := by
  rw [snd_enc]; exact pures_map (fun p => pure_dd p.2) l
theorem tableF (E : Enc ix s h) {w : Tn} {t} (e : aget w s.ta = some t) : cF 2 m_Store_table [.ref (ix .st), kW w] h = .ok (tabM (tabP s w t)) h := cF_dct rfl (table_i E e) (pure_ddA _)
theorem ix_tabM {l : List (Int × Dd)} {a : Int} {d : Dd} (e : aget a l = some d) (h : MH) : mIxA (tabM l) (.int a) h = .ok (ddM d) h := by
  have g : asD (tabM l) h = some (encA .int ddA l) := asD_dv _ h
  unfold mIxA isDk mDGet
  rw [g]
  simp only [Option.isSome_some, if_true, mkey, look_enc keyM_int, e, Option.map_some]
  rfl
theorem in_tabM (neg : Bool) (l : List (Int × Dd)) (a : Int) (h : MH) : mInCX neg (.int a) (tabM l) h = .ok (.bl (if neg then !(aget a l).isSome else (aget a l).isSome)) h := by
  have g : asD (tabM l) h = some (encA .int ddA l) := asD_dv _ h
  have g2 : asTD (tabM l) h = none := rfl
  unfold mInCX mInX
  rw [g, g2]
  simp only [Option.isSome_none, Bool.false_eq_true, if_false, mkey, look_enc keyM_int]
  cases aget a l <;> rfl
end
end MP
namespace MP
open PySem PySem.Spec PyProof.Rows L2
section
variable {ix : Ro → Nat} {s : Sto} {h : MH}
theorem cN_val {n : Nat} {m : List MV → MH → R MV} {as : List MV} (hl : as.length = n) : cN n m as h = m as h := by unfold cN; rw [if_pos hl]
noncomputable def toldD (p : Int × Mv) : Dd := .tup [.int p.1, .int p.2.to, .bl p.2.cop, .int p.2.rt.length]
noncomputable def mvsP (s : Sto) : List Dd := (isrt leA s.mo).map toldD
theorem len_dtt {n : Nat} {l : List (Spt × Bool)} {g : MH} (e : g[n]? = some (.dtt (encA kS blA l))) : mLenC [.ref n] g = .ok (.int l.length) g := by
  unfold mLenC mLen mLenD mLenQ asS
  simp only [e, orB, len_enc]
theorem told_i {g : MH} {n nr : Nat} {f : Int} {m : Mv} (e : g[n]? = some (.ins 1 (mvF ix f m))) (er : g[ix (.rtf f)]? = some (.dtt (encA kS blA m.rt))) : cF 1 m_Move_told [.ref n] g = .ok (ddM (toldD (f, m))) g := by
  refine cF_val0 rfl (fnM_rt ?_)
  show mb_Move_told [some (.ref n)] g = _
  have e1 : mFld [1] (Str.ofString "frame_from") (.ref n) g = .ok (.int f) g := fld_at e rfl rfl
  have e2 : mFld [1] (Str.ofString "frame_to") (.ref n) g = .ok (.int m.to) g := fld_at e rfl rfl
  have e3 : mFld [1] (Str.ofString "has_copied") (.ref n) g = .ok (.bl m.cop) g := fld_at e rfl rfl
  have e4 : mFld [1] (Str.ofString "right_ones") (.ref n) g = .ok (.ref (ix (.rtf f))) g := fld_at e rfl rfl
  unfold mb_Move_told
  simp only [sSeq, sIf, sExpr, sRet, sSet, sNil, sPass, mNot, mAnd, mOr, mTru, mN, mCons, mNil, m1, m2, m3c, mVar, mC, mB, isB, isTru, List.getElem?_cons_zero, List.getElem?_cons_succ, List.set_cons_zero, List.set_cons_succ, bindR_ok, bindS_ok, Option.isSome_some, Option.isSome_none, Bool.and_self, Bool.not_true, Bool.not_false, Bool.false_eq_true, if_true, if_false, mInC, mNotInC, List.cons_append, List.nil_append, e1, e2, e3, e4, len_dtt er]
  rfl
theorem dep_told (p : Int × Mv) : depD (toldD p) ≤ 1 := Nat.le_refl _
theorem moves_i (E : Enc ix s h) : m_Store_moves [.ref (ix .st)] h = .ok (.ref h.length) (h ++ [.lst (ddMs (mvsP s))]) := by
  refine fnM_rt ?_
  show mb_Store_moves [some (.ref (ix .st)), none] h = _
  have em := E.mo
  have nd := okL_nod E.oks.mo
  have lnm := okL_len E.oks.mo
  generalize hL : encA MV.int (fun f (_ : Mv) => MV.ref (ix (.mvf f))) s.mo = L at em
  have fm := fld_mo E
  have fm2 : mFld [0] (Str.ofString "own_moves") (.ref (ix .st)) (h.set (ix .mo) (.fdc L)) = .ok (.ref (ix .mo)) (h.set (ix .mo) (.fdc L)) := fld_at (E.gs (r := .st) (r0 := .mo) rfl rfl (by intro q; cases q)) rfl rfl
  have lt := (List.getElem?_eq_some_iff.mp em).1
  have e0 : (h.set (ix .mo) (.fdc L))[ix .mo]? = some (.fdc L) := List.getElem?_set_self lt
  have snd : L.map (·.2) = s.mo.map fun p => MV.ref (ix (.mvf p.1)) := by rw [← hL, snd_enc]
  have l1 : lkH (.ref (ix .mo)) h = some (ix .mo, h.set (ix .mo) (.fdc L)) := by
    unfold lkH; simp only [em]; rfl
  have l2 : ulkH (ix .mo) (h.set (ix .mo) (.fdc L)) = some h := by
    unfold ulkH; simp only [e0, ulkO, lk_set em]
  have ln : (s.mo.map fun p => MV.ref (ix (.mvf p.1))).length ≤ SZ := by
    rw [List.length_map]; exact Nat.le_of_lt (Nat.lt_trans lnm (by decide))
  have go : lcGo (fun _ => true) (.nm 1) mYes le_Store_moves_0 (s.mo.map fun p => MV.ref (ix (.mvf p.1))) (clrL [1] [some (.ref (ix .st)), none]) (h.set (ix .mo) (.fdc L)) = .ok (s.mo.map fun p => ddM (toldD p)) (h.set (ix .mo) (.fdc L)) := by
    refine lcGo_all rfl fun p hp => ?_
    have ep : aget p.1 s.mo = some p.2 := aget_of_mem nd hp
    have eo : (h.set (ix .mo) (.fdc L))[ix (.mvf p.1)]? = some (.ins 1 (mvF ix p.1 p.2)) := E.gs (cont_mvf ep) (r0 := .mo) rfl (by intro q; cases q)
    have er : (h.set (ix .mo) (.fdc L))[ix (.rtf p.1)]? = some (.dtt (encA kS blA p.2.rt)) := E.gs (cont_rtf ep) (r0 := .mo) rfl (by intro q; cases q)
    refine ⟨[some (.ref (ix .st)), some (.ref (ix (.mvf p.1)))], rfl, ?_⟩
    have t := told_i (nr := 0) eo er
    unfold le_Store_moves_0 mMethC
    simp only [sSeq, sIf, sExpr, sRet, sSet, sNil, sPass, mNot, mAnd, mOr, mTru, mN, mCons, mNil, m1, m2, m3c, mVar, mC, mB, isB, isTru, List.getElem?_cons_zero, List.getElem?_cons_succ, List.set_cons_zero, List.set_cons_succ, bindR_ok, bindS_ok, Option.isSome_some, Option.isSome_none, Bool.and_self, Bool.not_true, Bool.not_false, Bool.false_eq_true, if_true, if_false, mInC, mNotInC, List.cons_append, List.nil_append, eo]
    rw [if_pos (by rfl)]
    exact t
  have so : sokB (s.mo.map fun p => ddP (toldD p)) = true := by
    refine sok_tup (fun a _ b _ => rfl) (fun a _ => rfl) (fun a _ => ?_) (Nat.le_of_lt (Nat.lt_trans lnm (by decide)))
    have := dep_dd (toldD a)
    have := dep_told a
    omega
  have sr : mSrt finR [.lv (s.mo.map fun p => ddM (toldD p))] h = finR ((isrt leA s.mo).map fun p => ddM (toldD p)) h :=
    srt_of (d := fun p => ddP (toldD p)) rfl (fun p _ => toD_dd h 12 _ (Nat.lt_of_le_of_lt (dep_told p) (by decide))) so (leA_M nd fun p => [.int p.2.to, .bl p.2.cop, .int p.2.rt.length]) leA_tr leA_to (leA_an nd)
  unfold mb_Store_moves
  simp only [sSeq, sIf, sExpr, sRet, sSet, sNil, sPass, mNot, mAnd, mOr, mTru, mN, mCons, mNil, m1, m2, m3c, mVar, mC, mB, isB, isTru, List.getElem?_cons_zero, List.getElem?_cons_succ, List.set_cons_zero, List.set_cons_succ, bindR_ok, bindS_ok, Option.isSome_some, Option.isSome_none, Bool.and_self, Bool.not_true, Bool.not_false, Bool.false_eq_true, if_true, if_false, mInC, mNotInC, List.cons_append, List.nil_append, eLk, mLc, iVR, fm, fm2, l1, itVR, e0, snd, if_pos ln, go, finV, l2, sr, finR]
  rw [mvsP, ddMs_map, List.map_map]
  rfl
theorem movesF (E : Enc ix s h) : cF 1 m_Store_moves [.ref (ix .st)] h = .ok (.lv (ddMs (mvsP s))) h := cF_new rfl (moves_i E) (pures_dd _)
noncomputable def lotsG : List (Int × Bool) → List (Int × Bool) → List (Int × Bool)
  | [], acc => acc
  | (f, _) :: r, acc => lotsG r (aput (f / 8) true acc)
noncomputable def lotsP (s : Sto) : List (Int × Bool) := lotsG s.ho []
theorem putAll_lots : ∀ (r acc : List (Int × Bool)), nodA acc = true → putAll (encA MV.int blA acc) (r.map fun p => (MV.int (p.1 / 8), MV.bl true)) = encA MV.int blA (lotsG r acc)
  | [], _, _ => rfl
  | (f, _) :: r, acc, nd => by
    rw [List.map_cons, putAll_cons, put_enc (f := blA) (v := true) (x := .bl true) keyM_int rfl nd]
    exact putAll_lots r _ (nod_aput _ _ nd)
theorem lots_i (E : Enc ix s h) : m_Store_lots_of_house [.ref (ix .st)] h = .ok (.ref h.length) (h ++ [.dct (encA .int blA (lotsP s))]) := by
  refine fnM_rt ?_
  show mb_Store_lots_of_house [some (.ref (ix .st)), none] h = _
  have em := E.ho
  have lnm := okL_len E.oks.ho
  generalize hL : encA MV.int blA s.ho = L at em
  have fm := fld_ho E
  have fm2 : mFld [0] (Str.ofString "house_frames") (.ref (ix .st)) (h.set (ix .ho) (.fdc L)) = .ok (.ref (ix .ho)) (h.set (ix .ho) (.fdc L)) := fld_at (E.gs (r := .st) (r0 := .ho) rfl rfl (by intro q; cases q)) rfl rfl
  have lt := (List.getElem?_eq_some_iff.mp em).1
  have e0 : (h.set (ix .ho) (.fdc L))[ix .ho]? = some (.fdc L) := List.getElem?_set_self lt
  have fst : L.map (·.1) = s.ho.map fun p => MV.int p.1 := by rw [← hL, fst_enc]
  have l1 : lkH (.ref (ix .ho)) h = some (ix .ho, h.set (ix .ho) (.fdc L)) := by
    unfold lkH; simp only [em]; rfl
  have l2 : ulkH (ix .ho) (h.set (ix .ho) (.fdc L) ++ [.dct (encA .int blA (lotsP s))]) = some (h ++ [.dct (encA .int blA (lotsP s))]) := by
    have e1 : (h.set (ix .ho) (.fdc L) ++ [.dct (encA .int blA (lotsP s))])[ix .ho]? = some (.fdc L) := by
      rw [List.getElem?_append_left (by rw [List.length_set]; exact lt)]; exact e0
    unfold ulkH
    simp only [e1, ulkO]
    rw [List.set_append_left _ _ (by rw [List.length_set]; exact lt), lk_set em]
  have go : ∀ r : List (Int × Bool), dcIn (fun _ => true) (.nm 1) le_Store_lots_of_house_0 le_Store_lots_of_house_1 (r.map fun p => MV.int p.1) (clrL [1] [some (.ref (ix .st)), none]) (h.set (ix .ho) (.fdc L)) =
      .ok (r.map fun p => (MV.int (p.1 / 8), MV.bl true)) (h.set (ix .ho) (.fdc L)) := by
    intro r
    induction r with
    | nil => rfl
    | cons p r ih =>
      have dv := div_int p.1 8 (h.set (ix .ho) (.fdc L)) (by decide) (by decide)
      have e1 : le_Store_lots_of_house_0 [some (.ref (ix .st)), some (.int p.1)] (h.set (ix .ho) (.fdc L)) = .ok (.int (p.1 / 8)) (h.set (ix .ho) (.fdc L)) := by
        unfold le_Store_lots_of_house_0 c_LOT
        simp only [sSeq, sIf, sExpr, sRet, sSet, sNil, sPass, mNot, mAnd, mOr, mTru, mN, mCons, mNil, m1, m2, m3c, mVar, mC, mB, isB, isTru, List.getElem?_cons_zero, List.getElem?_cons_succ, List.set_cons_zero, List.set_cons_succ, bindR_ok, bindS_ok, Option.isSome_some, Option.isSome_none, Bool.and_self, Bool.not_true, Bool.not_false, Bool.false_eq_true, if_true, if_false, mInC, mNotInC, List.cons_append, List.nil_append, dv]
      have as : asP (.nm 1) (.int p.1) (clrL [1] [some (.ref (ix .st)), none]) = some [some (.ref (ix .st)), some (.int p.1)] := rfl
      rw [List.map_cons, dcIn, if_pos rfl, as]
      have e2 : le_Store_lots_of_house_1 [some (.ref (ix .st)), some (.int p.1)] (h.set (ix .ho) (.fdc L)) = .ok (.bl true) (h.set (ix .ho) (.fdc L)) := rfl
      simp only [e1, e2, ih]
      rfl
  have kok : (keysOk (s.ho.map fun p => (MV.int (p.1 / 8), MV.bl true)) && decide ((s.ho.map fun p => (MV.int (p.1 / 8), MV.bl true)).length ≤ SZ)) = true := by
    rw [Bool.and_eq_true]
    refine ⟨?_, ?_⟩
    · unfold keysOk
      rw [List.all_eq_true]
      intro x hx
      obtain ⟨p, _, rfl⟩ := List.mem_map.mp hx
      rfl
    · rw [List.length_map]; exact decide_eq_true (Nat.le_of_lt (Nat.lt_trans lnm (by decide)))
  have pa : putAll [] (s.ho.map fun p => (MV.int (p.1 / 8), MV.bl true)) = encA MV.int blA (lotsP s) := putAll_lots s.ho [] rfl
  unfold mb_Store_lots_of_house
  simp only [sSeq, sIf, sExpr, sRet, sSet, sNil, sPass, mNot, mAnd, mOr, mTru, mN, mCons, mNil, m1, m2, m3c, mVar, mC, mB, isB, isTru, List.getElem?_cons_zero, List.getElem?_cons_succ, List.set_cons_zero, List.set_cons_succ, bindR_ok, bindS_ok, Option.isSome_some, Option.isSome_none, Bool.and_self, Bool.not_true, Bool.not_false, Bool.false_eq_true, if_true, if_false, mInC, mNotInC, List.cons_append, List.nil_append, eLk, mDc1, iKR, fm, fm2, l1, itKR, e0, fst, go, kok, pa, finDR, List.length_set, l2]
noncomputable def lotM (l : List (Int × Bool)) : MV := .dv ((encA .int blA l).map (·.1)) ((encA .int blA l).map (·.2))
theorem lotsF (E : Enc ix s h) : cF 1 m_Store_lots_of_house [.ref (ix .st)] h = .ok (lotM (lotsP s)) h := cF_dct rfl (lots_i E) (by rw [snd_enc]; exact pures_map (fun p => rfl) _)
theorem in_lotM (neg : Bool) (l : List (Int × Bool)) (a : Int) (h : MH) : mInCX neg (.int a) (lotM l) h = .ok (.bl (if neg then !(aget a l).isSome else (aget a l).isSome)) h := by
  have g : asD (lotM l) h = some (encA .int blA l) := asD_dv _ h
  have g2 : asTD (lotM l) h = none := rfl
  unfold mInCX mInX
  rw [g, g2]
  simp only [Option.isSome_none, Bool.false_eq_true, if_false, mkey, look_enc keyM_int]
  cases aget a l <;> rfl
noncomputable def forT (free : List Int) (lots : List (Int × Bool)) : List Int := free.filter (fun f => !(aget (f / 8) lots).isSome) ++ free
theorem for_tenant_i {free : List Int} {lots : List (Int × Bool)} {y : Int} (ln : free.length ≤ 64) (e : (forT free lots).head? = some y) : m_for_tenant [.lv (free.map .int), lotM lots] h = .ok (.int y) h := by
  refine fnM_rt ?_
  show mb_for_tenant [some (.lv (free.map .int)), some (lotM lots), none, none] h = _
  have go : lcGo (fun _ => true) (.nm 3) lt_for_tenant_0 le_for_tenant_0 (free.map .int) (clrL [3] [some (.lv (free.map .int)), some (lotM lots), none, none]) h = .ok ((free.filter (fun f => !(aget (f / 8) lots).isSome)).map .int) h := by
    refine lcGo_map rfl fun f _ => ⟨[some (.lv (free.map .int)), some (lotM lots), none, some (.int f)], rfl, ?_, fun _ => rfl⟩
    have dv := div_int f 8 h (by decide) (by decide)
    have i := in_lotM true lots (f / 8) h
    unfold lt_for_tenant_0 c_LOT
    simp only [sSeq, sIf, sExpr, sRet, sSet, sNil, sPass, mNot, mAnd, mOr, mTru, mN, mCons, mNil, m1, m2, m3c, mVar, mC, mB, isB, isTru, List.getElem?_cons_zero, List.getElem?_cons_succ, List.set_cons_zero, List.set_cons_succ, bindR_ok, bindS_ok, Option.isSome_some, Option.isSome_none, Bool.and_self, Bool.not_true, Bool.not_false, Bool.false_eq_true, if_true, if_false, mInC, mNotInC, List.cons_append, List.nil_append, dv, i]
  have l1 : (free.map MV.int).length ≤ SZ := by rw [List.length_map]; exact Nat.le_trans ln (by decide)
  have l2 : ((free.filter (fun f => !(aget (f / 8) lots).isSome)).map MV.int).length + (free.map MV.int).length ≤ SZ := by
    rw [List.length_map, List.length_map]
    have := List.length_filter_le (fun f => !(aget (f / 8) lots).isSome) free
    exact Nat.le_trans (show _ ≤ 128 by omega) (by decide)
  have ad : mAdd finV (.lv ((free.filter (fun f => !(aget (f / 8) lots).isSome)).map .int)) (.lv (free.map .int)) h = .ok (.lv ((forT free lots).map .int)) h := by
    unfold mAdd
    simp only [asL, if_pos l2, finV, forT, List.map_append]
  have i0 : mIxA (.lv ((forT free lots).map .int)) (.int 0) h = .ok (.int y) h := by
    cases ef : forT free lots with
    | nil => rw [ef] at e; cases e
    | cons z r =>
      rw [ef] at e
      cases e
      unfold mIxA isDk asD mIx asS atI
      simp only [Option.isSome_none, Bool.false_eq_true, if_false, L2.ixN]
      simp
  unfold mb_for_tenant
  simp only [sSeq, sIf, sExpr, sRet, sSet, sNil, sPass, mNot, mAnd, mOr, mTru, mN, mCons, mNil, m1, m2, m3c, mVar, mC, mB, isB, isTru, List.getElem?_cons_zero, List.getElem?_cons_succ, List.set_cons_zero, List.set_cons_succ, bindR_ok, bindS_ok, Option.isSome_some, Option.isSome_none, Bool.and_self, Bool.not_true, Bool.not_false, Bool.false_eq_true, if_true, if_false, mInC, mNotInC, List.cons_append, List.nil_append, mLc, iL, itL, if_pos l1, go, finV, ad, i0]
theorem ddMs_ints (l : List Int) : ddMs (l.map .int) = l.map .int := by rw [ddMs_map, List.map_map]; rfl
theorem free_len (E : Enc ix s h) : (freeP s).length ≤ 64 := by
  have := List.length_filter_le (frB s) (rngI s.size)
  rw [rng_len] at this
  have := E.oks.z64
  unfold freeP
  omega
theorem eq_nil {l : List Int} (ne : l ≠ []) (h : MH) : mEqA (.lv (l.map .int)) (.lv []) h = .ok (.bl false) h := by
  have := eqA_dd (x := .li (l.map .int)) (y := .li []) (by rw [depD]; have := depDs_map (g := Dd.int) (n := 0) (fun _ => Nat.le_refl _) l; omega) (by decide) h
  rw [ddM, ddMs_ints] at this
  rw [show MV.lv [] = ddM (.li []) from rfl, this]
  cases l with
  | nil => exact absurd rfl ne
  | cons a r => rfl
theorem free_one_i (E : Enc ix s h) (W : wsB s = true) (k : Bool) (ne : freeP s ≠ []) : m_Store_free_one [.ref (ix .st), .bl k] h = .ok (.lv ((freeP s).map .int)) h := by
  refine fnM_rt ?_
  show mb_Store_free_one [some (.ref (ix .st)), some (.bl k), none] h = _
  unfold mb_Store_free_one
  simp only [sSeq, sIf, sExpr, sRet, sSet, sNil, sPass, mNot, mAnd, mOr, mTru, mN, mCons, mNil, m1, m2, m3c, mVar, mC, mB, isB, isTru, List.getElem?_cons_zero, List.getElem?_cons_succ, List.set_cons_zero, List.set_cons_succ, bindR_ok, bindS_ok, Option.isSome_some, Option.isSome_none, Bool.and_self, Bool.not_true, Bool.not_false, Bool.false_eq_true, if_true, if_false, mInC, mNotInC, List.cons_append, List.nil_append, methS E (mn := Str.ofString "free") rfl, freeF E W, mkLv, List.length_nil, show (0 ≤ SZ) = True from eq_true (by decide), eq_nil ne h]
theorem fft_i (E : Enc ix s h) (W : wsB s = true) (k : Bool) {y : Int} (e : (forT (freeP s) (lotsP s)).head? = some y) : m_Store_frame_for_tenant [.ref (ix .st), .bl k] h = .ok (.int y) h := by
  have ne : freeP s ≠ [] := by
    intro z
    rw [z] at e
    simp [forT] at e
  refine fnM_rt ?_
  show mb_Store_frame_for_tenant [some (.ref (ix .st)), some (.bl k)] h = _
  have f1 : cN 2 m_Store_free_one [.ref (ix .st), .bl k] h = .ok (.lv ((freeP s).map .int)) h := (cN_val rfl).trans (free_one_i E W k ne)
  have ft := cF_val0 (n := 2) rfl (for_tenant_i (h := h) (free_len E) e)
  have nn : ((stF ix s.size).lookup (Str.ofString "free_one")).isNone = true := rfl
  unfold mb_Store_frame_for_tenant mMethK
  simp only [sSeq, sIf, sExpr, sRet, sSet, sNil, sPass, mNot, mAnd, mOr, mTru, mN, mCons, mNil, m1, m2, m3c, mVar, mC, mB, isB, isTru, List.getElem?_cons_zero, List.getElem?_cons_succ, List.set_cons_zero, List.set_cons_succ, bindR_ok, bindS_ok, Option.isSome_some, Option.isSome_none, Bool.and_self, Bool.not_true, Bool.not_false, Bool.false_eq_true, if_true, if_false, mInC, mNotInC, List.cons_append, List.nil_append, E.st, nn, List.length_nil, List.length_cons, methS E (mn := Str.ofString "lots_of_house") rfl, lotsF E, Nat.beq]
  rw [f1]
  simp only [sSeq, sIf, sExpr, sRet, sSet, sNil, sPass, mNot, mAnd, mOr, mTru, mN, mCons, mNil, m1, m2, m3c, mVar, mC, mB, isB, isTru, List.getElem?_cons_zero, List.getElem?_cons_succ, List.set_cons_zero, List.set_cons_succ, bindR_ok, bindS_ok, Option.isSome_some, Option.isSome_none, Bool.and_self, Bool.not_true, Bool.not_false, Bool.false_eq_true, if_true, if_false, mInC, mNotInC, List.cons_append, List.nil_append, methS E (mn := Str.ofString "lots_of_house") rfl, lotsF E, ft]
end
end MP
namespace MP
open PySem PySem.Spec PyProof.Rows L2
/-- a store, and things beside it that it doesn't touch -/
structure Own (ix : Ro → Nat) (s : Sto) (h : MH) (P : List (Nat × MO)) : Prop where
  E : Enc ix s h
  fr : ∀ p ∈ P, h[p.1]? = some p.2
  un : ∀ p ∈ P, ∀ r o, cont ix s r = some o → ix r ≠ p.1
section
variable {ix : Ro → Nat} {s s' : Sto} {h h' : MH} {P : List (Nat × MO)}
theorem Own.lt (O : Own ix s h P) {p : Nat × MO} (m : p ∈ P) : p.1 < h.length := (List.getElem?_eq_some_iff.mp (O.fr p m)).1
theorem Own.grow (O : Own ix s h P) (g : MH) : Own ix s (h ++ g) P :=
  ⟨O.E.grow g, fun p m => by rw [List.getElem?_append_left (O.lt m)]; exact O.fr p m, O.un⟩
theorem Own.set (O : Own ix s h P) {r0 : Ro} {o0 o1 : MO} (c0 : cont ix s r0 = some o0) (c1 : cont ix s' r0 = some o1) (k : okS s' = true)
    (c : ∀ r o, r ≠ r0 → cont ix s' r = some o → cont ix s r = some o) : Own ix s' (h.set (ix r0) o1) P := by
  refine ⟨O.E.set c0 c1 k c, fun p m => ?_, fun p m r o e => ?_⟩
  · rw [List.getElem?_set_ne (O.un p m r0 o0 c0)]; exact O.fr p m
  · by_cases z : r = r0
    · subst z; exact O.un p m _ _ c0
    · exact O.un p m r o (c r o z e)
theorem Own.add (O : Own ix s h P) {r0 p : Ro} {n : Nat} {o0 op op' : MO} (hn : ∀ r o, cont ix s r = some o → ix r ≠ n) (hP : ∀ p ∈ P, n ≠ p.1) (h0 : h[n]? = some o0) (hp : cont ix s p = some op) (np : p ≠ r0) (c0 : cont (upx ix r0 n) s' r0 = some o0)
    (c1 : cont (upx ix r0 n) s' p = some op') (k : okS s' = true) (c : ∀ r o, r ≠ r0 → r ≠ p → cont (upx ix r0 n) s' r = some o → cont ix s r = some o) : Own (upx ix r0 n) s' (h.set (ix p) op') P := by
  refine ⟨O.E.add hn h0 hp np c0 c1 k c, fun q m => ?_, fun q m r o e => ?_⟩
  · rw [List.getElem?_set_ne (O.un q m p op hp)]; exact O.fr q m
  · by_cases y : r = r0
    · subst y
      unfold upx; rw [if_pos rfl]; exact hP q m
    · unfold upx; rw [if_neg y]
      by_cases z : r = p
      · subst z; exact O.un q m _ _ hp
      · exact O.un q m r o (c r o y z e)
/-- the new role's index is behind the heap -/
theorem Own.new (O : Own ix s h P) {r0 p : Ro} {g : MH} {j : Nat} {o0 op op' : MO} (h0 : g[j]? = some o0) (hp : cont ix s p = some op) (np : p ≠ r0) (c0 : cont (upx ix r0 (h.length + j)) s' r0 = some o0)
    (c1 : cont (upx ix r0 (h.length + j)) s' p = some op') (k : okS s' = true) (c : ∀ r o, r ≠ r0 → r ≠ p → cont (upx ix r0 (h.length + j)) s' r = some o → cont ix s r = some o) : Own (upx ix r0 (h.length + j)) s' ((h ++ g).set (ix p) op') P :=
  (O.grow g).add (fun r o e => by have := O.E.lt e; omega) (fun p m => by have := O.lt m; omega) (by rw [List.getElem?_append_right (by omega)]; simpa using h0) hp np c0 c1 k c
theorem okS_mid {s1 : Sto} (a : okS s = true) (b : okS s' = true) (e1 : s1.wo = s.wo ∨ s1.wo = s'.wo) (e2 : s1.ho = s.ho ∨ s1.ho = s'.ho) (e3 : s1.ke = s.ke ∨ s1.ke = s'.ke) (e4 : s1.pi = s.pi ∨ s1.pi = s'.pi) (e5 : s1.sp = s.sp ∨ s1.sp = s'.sp)
    (e6 : s1.ta = s.ta ∨ s1.ta = s'.ta) (e7 : s1.mo = s.mo ∨ s1.mo = s'.mo) (e8 : s1.size = s.size) : okS s1 = true := by
  unfold okS at *
  simp only [Bool.and_eq_true] at *
  obtain ⟨⟨⟨⟨⟨⟨⟨⟨⟨⟨⟨a1, a2⟩, a3⟩, a4⟩, a5⟩, a6⟩, a7⟩, a8⟩, a9⟩, a10⟩, a12⟩, a13⟩ := a
  obtain ⟨⟨⟨⟨⟨⟨⟨⟨⟨⟨⟨b1, b2⟩, b3⟩, b4⟩, b5⟩, b6⟩, b7⟩, b8⟩, b9⟩, b10⟩, b12⟩, b13⟩ := b
  refine ⟨⟨⟨⟨⟨⟨⟨⟨⟨⟨⟨?_, ?_⟩, ?_⟩, ?_⟩, ?_⟩, ?_⟩, ?_⟩, ?_⟩, ?_⟩, ?_⟩, ?_⟩, ?_⟩
  · rcases e1 with e | e <;> rw [e] <;> assumption
  · rcases e2 with e | e <;> rw [e] <;> assumption
  · rcases e3 with e | e <;> rw [e] <;> assumption
  · rcases e4 with e | e <;> rw [e] <;> assumption
  · rcases e5 with e | e <;> rw [e] <;> assumption
  · rcases e6 with e | e <;> rw [e] <;> assumption
  · rcases e7 with e | e <;> rw [e] <;> assumption
  · rcases e5 with e | e <;> rw [e] <;> assumption
  · rcases e6 with e | e <;> rw [e] <;> assumption
  · rcases e7 with e | e <;> rw [e] <;> assumption
  · rw [e8]; exact a12
  · rw [e8]; exact a13
end
/-- how a deed ends: with a value, at a store -/
noncomputable def Res (x : R MV) (v : MV) (n : Nat) (s' : Sto) (P : List (Nat × MO)) : Prop := ∃ ix' h', x = .ok v h' ∧ Own ix' s' h' P ∧ ix' .st = n
theorem no_w : ∀ w : Tn, inV (.str (Sw.w w).str) [V.str (Str.ofString "house"), V.str (Str.ofString "kept")] = false := by decide +kernel
theorem al_w : ∀ w : Tn, decide (97 + w.val ∈ (Str.ofString "abcdefghijklmnopqrstuvwxyz").cps.toList) = true := by decide +kernel
theorem word_i (w : Tn) (h : MH) : m_is_word [kW w] h = .ok (.bl true) h := by
  have t0 : isT .str (kW w) h = .ok (.bl true) h := rfl
  have ln : mLenC [kW w] h = .ok (.int 1) h := rfl
  have nw : mInS (kW w) (.tup [.str (Str.ofString "house"), .str (Str.ofString "kept")]) h = .ok (.bl false) h := by
    have i : inV (.str (Sw.w w).str) [V.str (Str.ofString "house"), V.str (Str.ofString "kept")] = false := no_w w
    simp [mInS, mInSN, flatM, mapO, kW, i]
  have it : itS (kW w) h = .ok ([kW w], fun _ => true) h := rfl
  have sg : mInSg (kW w) (.str (Str.ofString "abcdefghijklmnopqrstuvwxyz")) h = .ok (.bl true) h := by
    show R.ok (MV.bl (decide (97 + w.val ∈ (Str.ofString "abcdefghijklmnopqrstuvwxyz").cps.toList))) h = _
    have : decide (97 + w.val ∈ (Str.ofString "abcdefghijklmnopqrstuvwxyz").cps.toList) = true := al_w w
    rw [this]
  refine fnM_rt ?_
  show mb_is_word [some (kW w), none] h = _
  have le1 : mLe (.int 1) (.int 1) h = .ok (.bl true) h := rfl
  have le8 : mLe (.int 1) (.int 8) h = .ok (.bl true) h := rfl
  have go : lcGo (fun _ => true) (.nm 1) mYes le_is_word_0 [kW w] (clrL [1] [some (kW w), none]) h = .ok [.bl true] h := by
    have e : le_is_word_0 [some (kW w), some (kW w)] h = .ok (.bl true) h := by
      unfold le_is_word_0 c_SIGNS
      simp only [sSeq, sIf, sExpr, sRet, sSet, sNil, sPass, mNot, mAnd, mOr, mTru, mN, mCons, mNil, m1, m2, m3c, mVar, mC, mB, isB, isTru, List.getElem?_cons_zero, List.getElem?_cons_succ, List.set_cons_zero, List.set_cons_succ, bindR_ok, bindS_ok, Option.isSome_some, Option.isSome_none, Bool.and_self, Bool.not_true, Bool.not_false, Bool.false_eq_true, if_true, if_false, mInC, mNotInC, List.cons_append, List.nil_append, sg]
    have as : asP (.nm 1) (kW w) (clrL [1] [some (kW w), none]) = some [some (kW w), some (kW w)] := rfl
    simp only [lcGo, if_true, as, mYes, e]
  have al : mAll [.lv [.bl true]] h = .ok (.bl true) h := rfl
  unfold mb_is_word
  simp only [sSeq, sIf, sExpr, sRet, sSet, sNil, sPass, mNot, mAnd, mOr, mTru, mN, mCons, mNil, m1, m2, m3c, mVar, mC, mB, isB, isTru, List.getElem?_cons_zero, List.getElem?_cons_succ, List.set_cons_zero, List.set_cons_succ, bindR_ok, bindS_ok, Option.isSome_some, Option.isSome_none, Bool.and_self, Bool.not_true, Bool.not_false, Bool.false_eq_true, if_true, if_false, mInC, mNotInC, List.cons_append, List.nil_append, t0, ln, c_LONGEST, c_NO_WORDS, le1, le8, nw, mLc, iS, it, List.length_cons, List.length_nil, show (0 + 1 ≤ SZ) = True from eq_true (by decide), go, finV, al]
section
variable {ix : Ro → Nat} {s s' : Sto} {h h' : MH} {P : List (Nat × MO)}
noncomputable def comeP (s : Sto) (w : Tn) : Sto := { s with ta := aput w [] s.ta }
theorem come_i (O : Own ix s h P) {w : Tn} (e : aget w s.ta = none) (k : okS (comeP s w) = true) : Res (m_Store_come [.ref (ix .st), kW w] h) .non (ix .st) (comeP s w) P := by
  have i := in_dct false O.E.ta keyM_wd mk_wd w
  rw [e] at i
  have wf := cF_val0 (n := 1) rfl (word_i w h)
  have G := O.E.grow [.dct []]
  have okt := O.E.oks.ta
  have st : sSetC mDict (m1 (mFld [0] (Str.ofString "tables")) (mVar 0)) (mVar 1) [some (.ref (ix .st)), some (kW w)] h =
      .nx [some (.ref (ix .st)), some (kW w)] ((h ++ [MO.dct []]).set (ix .ta) (MO.dct (putKV (encA kW (fun w _ => .ref (ix (.tab w))) s.ta) (kW w) (.ref h.length)))) :=
    set_dct (x := .ref h.length) (h1 := h ++ [.dct []]) (h := h ++ [.dct []]) (k := w) rfl (by simp only [sSeq, sIf, sExpr, sRet, sSet, sNil, sPass, mNot, mAnd, mOr, mTru, mN, mCons, mNil, m1, m2, m3c, mVar, mC, mB, isB, isTru, List.getElem?_cons_zero, List.getElem?_cons_succ, List.set_cons_zero, List.set_cons_succ, bindR_ok, bindS_ok, Option.isSome_some, Option.isSome_none, Bool.and_self, Bool.not_true, Bool.not_false, Bool.false_eq_true, if_true, if_false, mInC, mNotInC, List.cons_append, List.nil_append, fld_ta G]) rfl G.ta keyM_wd mk_wd okt
  have main : mb_Store_come [some (.ref (ix .st)), some (kW w)] h = .nx [some (.ref (ix .st)), some (kW w)] ((h ++ [MO.dct []]).set (ix .ta) (MO.dct (putKV (encA kW (fun w _ => .ref (ix (.tab w))) s.ta) (kW w) (.ref h.length)))) := by
    unfold mb_Store_come
    simp only [sSeq, sIf, sExpr, sRet, sSet, sNil, sPass, mNot, mAnd, mOr, mTru, mN, mCons, mNil, m1, m2, m3c, mVar, mC, mB, isB, isTru, List.getElem?_cons_zero, List.getElem?_cons_succ, List.set_cons_zero, List.set_cons_succ, bindR_ok, bindS_ok, Option.isSome_some, Option.isSome_none, Bool.and_self, Bool.not_true, Bool.not_false, Bool.false_eq_true, if_true, if_false, mInC, mNotInC, List.cons_append, List.nil_append, wf, fld_ta O.E, i, st]
  refine ⟨upx ix (.tab w) h.length, _, fnM_nx main, ?_, ?_⟩
  · have pe : putKV (encA kW (fun w (_ : List (Int × Ent)) => MV.ref (ix (.tab w))) s.ta) (kW w) (.ref h.length) = encA kW (fun v (_ : List (Int × Ent)) => MV.ref (upx ix (.tab w) h.length (.tab v))) (aput w [] s.ta) :=
      put_enc' keyM_wd (by unfold upx; rw [if_pos rfl]) (fun j nj _ => by unfold upx; rw [if_neg (fun q => nj (by injection q))]) (okL_nod okt)
    rw [pe]
    refine O.new (j := 0) (o0 := .dct []) rfl rfl (by intro q; cases q) ?_ rfl k fun r o n1 n2 c => ?_
    · simp only [cont, comeP, aget_aput, if_true, Option.map_some]; rfl
    · cases r with
      | ta => exact absurd rfl n2
      | tab v =>
        have : ¬ w = v := fun q => n1 (by rw [q])
        simpa only [cont, comeP, aget_aput, if_neg this] using c
      | _ => exact c
  · unfold upx; rw [if_neg (by intro q; cases q)]
end
end MP
namespace MP
open PySem PySem.Spec PyProof.Rows L2
theorem enc_key {κ α : Type} [DecidableEq κ] {km : κ → MV} {F : κ → MV} {k : κ} {v v' : α} : ∀ {l : List (κ × α)}, aget k l = some v → encA km (fun k (_ : α) => F k) (aput k v' l) = encA km (fun k _ => F k) l
  | [], h => by cases h
  | (i, w) :: r, h => by
    unfold aget at h
    unfold aput
    by_cases e : i = k
    · rw [if_pos e]; rfl
    · rw [if_neg e] at h ⊢
      show (km i, F i) :: encA km (fun k _ => F k) (aput k v' r) = _
      rw [enc_key h]; rfl
section
variable {ix : Ro → Nat} {s s' : Sto} {h h' : MH} {P : List (Nat × MO)}
theorem setd_dct {n : Nat} {f : Int} {d : MV} {l : List (Int × List (Spt × Bool))} {F : Int → MV} (e : h[n]? = some (.dct (encA .int (fun f _ => F f) l))) (ok : okL l = true) :
    mSetd (.ref n) (.int f) d h = match aget f l with
      | some _ => .ok (F f) h
      | none => .ok d (h.set n (.dct (putKV (encA .int (fun f _ => F f) l) (.int f) d))) := by
  have ln : (decide ((encA MV.int (fun f (_ : List (Spt × Bool)) => F f) l).length < SZ) && nodK (encA MV.int (fun f (_ : List (Spt × Bool)) => F f) l)) = true := by
    rw [nod_enc keyM_int, okL_nod ok, len_enc, decide_eq_true (Nat.lt_trans (okL_len ok) (by decide))]; rfl
  unfold mSetd
  simp only [e, mkey, ln, if_true, look_enc keyM_int]
  cases aget f l <;> rfl
noncomputable def tieP (s : Sto) (w : Tn) (t : List (Int × Ent)) (a f : Int) (b : Bool) : Sto :=
  { s with ta := aput w (aput a (f, b, false) t) s.ta, sp := aput f (aput (w, a) true ((aget f s.sp).getD [])) s.sp }
theorem tie_i (O : Own ix s h P) {w : Tn} {t} (e : aget w s.ta = some t) {a f : Int} {b : Bool} (k : okS (tieP s w t a f b) = true) : Res (m_Store_tie [.ref (ix .st), kW w, .int a, .int f, .str (rtS b).str] h) .non (ix .st) (tieP s w t a f b) P := by
  have okt := O.E.oks.tab w t e
  have oks := O.E.oks.sp
  -- the entry
  have x1 : sSetC (mN mkTup (mCons (mVar 3) (mCons (mVar 4) (mCons (mC (.bl false)) mNil)))) (m2 mIxA (m1 (mFld [0] (Str.ofString "tables")) (mVar 0)) (mVar 1)) (mVar 2) [some (.ref (ix .st)), some (kW w), some (.int a), some (.int f), some (.str (rtS b).str)] h =
      .nx [some (.ref (ix .st)), some (kW w), some (.int a), some (.int f), some (.str (rtS b).str)] (h.set (ix (.tab w)) (MO.dct (putKV (encA .int entA t) (.int a) (entM (f, b, false))))) :=
    set_dct (x := entM (f, b, false)) (h1 := h) (h := h) (k := a) rfl (by simp only [sSeq, sIf, sExpr, sRet, sSet, sNil, sPass, mNot, mAnd, mOr, mTru, mN, mCons, mNil, m1, m2, m3c, mVar, mC, mB, isB, isTru, List.getElem?_cons_zero, List.getElem?_cons_succ, List.set_cons_zero, List.set_cons_succ, bindR_ok, bindS_ok, Option.isSome_some, Option.isSome_none, Bool.and_self, Bool.not_true, Bool.not_false, Bool.false_eq_true, if_true, if_false, mInC, mNotInC, List.cons_append, List.nil_append, fld_ta O.E, ix_dct O.E.ta keyM_wd mk_wd e]) rfl (O.E.tab e) keyM_int mk_int okt
  rw [put_enc (f := entA) (k := a) (v := (f, b, false)) (x := entM (f, b, false)) keyM_int rfl (okL_nod okt)] at x1
  have k1 : okS { s with ta := aput w (aput a (f, b, false) t) s.ta } = true := okS_mid O.E.ok k (.inl rfl) (.inl rfl) (.inl rfl) (.inl rfl) (.inl rfl) (.inr rfl) (.inl rfl) rfl
  have O1 : Own ix { s with ta := aput w (aput a (f, b, false) t) s.ta } (h.set (ix (.tab w)) (MO.dct (encA .int entA (aput a (f, b, false) t)))) P := by
    refine O.set (cont_tab e) ?_ k1 fun r o n1 c => ?_
    · simp only [cont, aget_aput, if_true, Option.map_some]
    · cases r with
      | ta =>
        simp only [cont] at c ⊢
        rw [enc_key (F := fun w => MV.ref (ix (.tab w))) e] at c
        exact c
      | tab v =>
        have : ¬ w = v := fun q => n1 (by rw [q])
        simpa only [cont, aget_aput, if_neg this] using c
      | _ => exact c
  generalize h.set (ix (.tab w)) (MO.dct (encA .int entA (aput a (f, b, false) t))) = h1 at x1 O1
  have G := O1.E.grow [.dtt []]
  have sd := setd_dct (f := f) (d := .ref h1.length) (F := fun f => .ref (ix (.spf f))) G.sp oks
  have dk := dk_dct O1.E.sp
  cases el : aget f s.sp with
  | some l =>
    have okl := O.E.oks.spf f l el
    simp only [el] at sd
    have x2 : sSetC (mC (.bl true)) (m3D mSetd (m1 (mFld [0] (Str.ofString "spots")) (mVar 0)) (mVar 3) mDictT) (mN mkTup (mCons (mVar 1) (mCons (mVar 2) mNil))) [some (.ref (ix .st)), some (kW w), some (.int a), some (.int f), some (.str (rtS b).str)] h1 =
        .nx [some (.ref (ix .st)), some (kW w), some (.int a), some (.int f), some (.str (rtS b).str)] ((h1 ++ [MO.dtt []]).set (ix (.spf f)) (MO.dtt (putKV (encA kS blA l) (kS (w, a)) (.bl true)))) :=
      set_dtt (x := .bl true) (h1 := h1) (h := h1 ++ [MO.dtt []]) (k := (w, a)) rfl (by simp only [sSeq, sIf, sExpr, sRet, sSet, sNil, sPass, mNot, mAnd, mOr, mTru, mN, mCons, mNil, m1, m2, m3c, mVar, mC, mB, isB, isTru, List.getElem?_cons_zero, List.getElem?_cons_succ, List.set_cons_zero, List.set_cons_succ, bindR_ok, bindS_ok, Option.isSome_some, Option.isSome_none, Bool.and_self, Bool.not_true, Bool.not_false, Bool.false_eq_true, if_true, if_false, mInC, mNotInC, List.cons_append, List.nil_append, m3D, fld_sp O1.E, dk, mDictT, sd]) rfl (G.spf el) okl
    rw [put_enc (f := blA) (k := (w, a)) (v := true) (x := .bl true) keyM_spt rfl (okL_nod okl)] at x2
    refine ⟨ix, _, fnM_nx ((seq_nx x1).trans x2), ?_, rfl⟩
    · refine (O1.grow [.dtt []]).set (cont_spf el) ?_ k fun r o n1 c => ?_
      · simp only [cont, tieP, aget_aput, if_true, Option.map_some, el, Option.getD_some]
      · cases r with
        | sp =>
          simp only [cont, tieP] at c ⊢
          rw [enc_key (F := fun f => MV.ref (ix (.spf f))) el] at c
          exact c
        | spf g =>
          have : ¬ f = g := fun q => n1 (by rw [q])
          simpa only [cont, tieP, aget_aput, if_neg this] using c
        | _ => exact c
  | none =>
    simp only [el] at sd
    have gn : ((h1 ++ [MO.dtt []]).set (ix .sp) (.dct (putKV (encA .int (fun f _ => .ref (ix (.spf f))) s.sp) (.int f) (.ref h1.length))))[h1.length]? = some (.dtt (encA kS blA [])) := by
      rw [List.getElem?_set_ne (Nat.ne_of_lt (O1.E.lt (r := .sp) rfl)), get_new]; rfl
    have x2 : sSetC (mC (.bl true)) (m3D mSetd (m1 (mFld [0] (Str.ofString "spots")) (mVar 0)) (mVar 3) mDictT) (mN mkTup (mCons (mVar 1) (mCons (mVar 2) mNil))) [some (.ref (ix .st)), some (kW w), some (.int a), some (.int f), some (.str (rtS b).str)] h1 =
        .nx [some (.ref (ix .st)), some (kW w), some (.int a), some (.int f), some (.str (rtS b).str)]
          (((h1 ++ [MO.dtt []]).set (ix .sp) (MO.dct (putKV (encA .int (fun f _ => .ref (ix (.spf f))) s.sp) (.int f) (.ref h1.length)))).set h1.length (MO.dtt (putKV (encA kS blA []) (kS (w, a)) (.bl true)))) :=
      set_dtt (x := .bl true) (h1 := h1) (k := (w, a)) rfl (by simp only [sSeq, sIf, sExpr, sRet, sSet, sNil, sPass, mNot, mAnd, mOr, mTru, mN, mCons, mNil, m1, m2, m3c, mVar, mC, mB, isB, isTru, List.getElem?_cons_zero, List.getElem?_cons_succ, List.set_cons_zero, List.set_cons_succ, bindR_ok, bindS_ok, Option.isSome_some, Option.isSome_none, Bool.and_self, Bool.not_true, Bool.not_false, Bool.false_eq_true, if_true, if_false, mInC, mNotInC, List.cons_append, List.nil_append, m3D, fld_sp O1.E, dk, mDictT, sd]) rfl gn rfl
    rw [List.set_comm _ _ (Nat.ne_of_lt (O1.E.lt (r := .sp) rfl)), set_new] at x2
    have pe : putKV (encA MV.int (fun f (_ : List (Spt × Bool)) => MV.ref (ix (.spf f))) s.sp) (.int f) (.ref h1.length) = encA MV.int (fun g (_ : List (Spt × Bool)) => MV.ref (upx ix (.spf f) (h1.length + 0) (.spf g))) (aput f [((w, a), true)] s.sp) :=
      put_enc' keyM_int (by unfold upx; rw [if_pos rfl]; rfl) (fun j nj _ => by unfold upx; rw [if_neg (fun q => nj (by injection q))]) (okL_nod oks)
    rw [pe] at x2
    refine ⟨upx ix (.spf f) (h1.length + 0), _, fnM_nx ((seq_nx x1).trans x2), ?_, ?_⟩
    · refine O1.new (j := 0) (o0 := MO.dtt (putKV (encA kS blA []) (kS (w, a)) (.bl true))) rfl rfl (by intro q; cases q) ?_ ?_ k fun r o n1 n2 c => ?_
      · simp only [cont, tieP, aget_aput, if_true, Option.map_some, el, Option.getD_none]; rfl
      · simp only [cont, tieP, el, Option.getD_none]; rfl
      · cases r with
        | sp => exact absurd rfl n2
        | spf g =>
          have : ¬ f = g := fun q => n1 (by rw [q])
          simpa only [cont, tieP, aget_aput, if_neg this] using c
        | _ => exact c
    · unfold upx; rw [if_neg (by intro q; cases q)]
end
end MP
namespace MP
open PySem PySem.Spec PyProof.Rows L2
section
variable {ix : Ro → Nat} {s s' : Sto} {h h' : MH} {P : List (Nat × MO)}
noncomputable def laidP (s : Sto) (w : Tn) (t : List (Int × Ent)) (a x y : Int) (b : Bool) : Sto := tieP { s with wo := aput y x s.wo } w t a y b
theorem lay_i (O : Own ix s h P) (W : wsB s = true) {w : Tn} {t} (e : aget w s.ta = some t) {a x y : Int} {b : Bool} (ey : (forT (freeP s) (lotsP s)).head? = some y) (k : okS (laidP s w t a x y b) = true) :
    Res (m_Store_lay_frame [.ref (ix .st), kW w, .int a, .int x, .str (rtS b).str] h) .non (ix .st) (laidP s w t a x y b) P := by
  have ff : cN 2 m_Store_frame_for_tenant [.ref (ix .st), .bl true] h = .ok (.int y) h := (cN_val rfl).trans (fft_i O.E W true ey)
  have x1 : sSet 5 (mMethC 0 (Str.ofString "frame_for_tenant") (mVar 0) mNil fun v as h => cN 2 m_Store_frame_for_tenant (v :: (as ++ [.bl true])) h) [some (.ref (ix .st)), some (kW w), some (.int a), some (.int x), some (.str (rtS b).str), none] h =
      .nx [some (.ref (ix .st)), some (kW w), some (.int a), some (.int x), some (.str (rtS b).str), some (.int y)] h := by
    simp only [sSeq, sIf, sExpr, sRet, sSet, sNil, sPass, mNot, mAnd, mOr, mTru, mN, mCons, mNil, m1, m2, m3c, mVar, mC, mB, isB, isTru, List.getElem?_cons_zero, List.getElem?_cons_succ, List.set_cons_zero, List.set_cons_succ, bindR_ok, bindS_ok, Option.isSome_some, Option.isSome_none, Bool.and_self, Bool.not_true, Bool.not_false, Bool.false_eq_true, if_true, if_false, mInC, mNotInC, List.cons_append, List.nil_append, methS O.E (mn := Str.ofString "frame_for_tenant") rfl, ff]
  have x2 : sSetC (mVar 3) (m1 (mFld [0] (Str.ofString "worths")) (mVar 0)) (mVar 5) [some (.ref (ix .st)), some (kW w), some (.int a), some (.int x), some (.str (rtS b).str), some (.int y)] h =
      .nx [some (.ref (ix .st)), some (kW w), some (.int a), some (.int x), some (.str (rtS b).str), some (.int y)] (h.set (ix .wo) (MO.dct (putKV (encA .int intA s.wo) (.int y) (.int x)))) :=
    set_dct (x := .int x) (h1 := h) (h := h) (k := y) rfl (by simp only [sSeq, sIf, sExpr, sRet, sSet, sNil, sPass, mNot, mAnd, mOr, mTru, mN, mCons, mNil, m1, m2, m3c, mVar, mC, mB, isB, isTru, List.getElem?_cons_zero, List.getElem?_cons_succ, List.set_cons_zero, List.set_cons_succ, bindR_ok, bindS_ok, Option.isSome_some, Option.isSome_none, Bool.and_self, Bool.not_true, Bool.not_false, Bool.false_eq_true, if_true, if_false, mInC, mNotInC, List.cons_append, List.nil_append, fld_wo O.E]) rfl O.E.wo keyM_int mk_int O.E.oks.wo
  rw [put_enc (f := intA) (k := y) (v := x) (x := .int x) keyM_int rfl (okL_nod O.E.oks.wo)] at x2
  have k1 : okS { s with wo := aput y x s.wo } = true := okS_mid O.E.ok k (.inr rfl) (.inl rfl) (.inl rfl) (.inl rfl) (.inl rfl) (.inl rfl) (.inl rfl) rfl
  have O1 : Own ix { s with wo := aput y x s.wo } (h.set (ix .wo) (MO.dct (encA .int intA (aput y x s.wo)))) P := by
    refine O.set (r0 := .wo) rfl rfl k1 fun r o n1 c => ?_
    cases r with
    | wo => exact absurd rfl n1
    | _ => exact c
  generalize h.set (ix .wo) (MO.dct (encA .int intA (aput y x s.wo))) = h1 at x2 O1
  obtain ⟨ix', h', e3, O3, q3⟩ := tie_i O1 (w := w) (t := t) e (a := a) (f := y) (b := b) k
  have x3 : sExpr (mMethC 0 (Str.ofString "tie") (mVar 0) (mCons (mVar 1) (mCons (mVar 2) (mCons (mVar 5) (mCons (mVar 4) mNil)))) fun v as h => cN 5 m_Store_tie (v :: (as ++ [])) h) [some (.ref (ix .st)), some (kW w), some (.int a), some (.int x), some (.str (rtS b).str), some (.int y)] h1 =
      .nx [some (.ref (ix .st)), some (kW w), some (.int a), some (.int x), some (.str (rtS b).str), some (.int y)] h' := by
    have c := (cN_val (n := 5) rfl).trans e3
    simp only [sSeq, sIf, sExpr, sRet, sSet, sNil, sPass, mNot, mAnd, mOr, mTru, mN, mCons, mNil, m1, m2, m3c, mVar, mC, mB, isB, isTru, List.getElem?_cons_zero, List.getElem?_cons_succ, List.set_cons_zero, List.set_cons_succ, bindR_ok, bindS_ok, Option.isSome_some, Option.isSome_none, Bool.and_self, Bool.not_true, Bool.not_false, Bool.false_eq_true, if_true, if_false, mInC, mNotInC, List.cons_append, List.nil_append, methS O1.E (mn := Str.ofString "tie") rfl, c]
  exact ⟨ix', h', fnM_nx ((seq_nx x1).trans ((seq_nx x2).trans x3)), O3, q3⟩
theorem give_i (O : Own ix s h P) (W : wsB s = true) {w : Tn} {t} (e : aget w s.ta = some t) {a x y : Int} {b : Bool} (ea : aget a t = none) (z0 : 0 ≤ a) (z1 : a ≤ 31) (z2 : -1000000000 ≤ x) (z3 : x ≤ 1000000000) (ey : (forT (freeP s) (lotsP s)).head? = some y)
    (k : okS (laidP s w t a x y b) = true) : Res (m_Store_give [.ref (ix .st), kW w, .int a, .int x, .str (rtS b).str] h) .non (ix .st) (laidP s w t a x y b) P := by
  obtain ⟨ix', h', e3, O3, q3⟩ := lay_i O W e (a := a) (x := x) (b := b) ey k
  have c := (cN_val (n := 5) rfl).trans e3
  have l1 := cF_val0 (n := 1) rfl (addr_i a h z0 z1)
  have l2 := cF_val0 (n := 1) rfl (worth_i x h z2 z3)
  have l3 := cF_val0 (n := 1) rfl (rights_i h b)
  have i := in_dct false (O.E.tab e) keyM_int mk_int a
  rw [ea] at i
  refine ⟨ix', h', fnM_nx (σ := [some (.ref (ix .st)), some (kW w), some (.int a), some (.int x), some (.str (rtS b).str), some (.ref (ix (.tab w)))]) ?_, O3, q3⟩
  show mb_Store_give [some (.ref (ix .st)), some (kW w), some (.int a), some (.int x), some (.str (rtS b).str), none] h = _
  unfold mb_Store_give
  simp only [sSeq, sIf, sExpr, sRet, sSet, sNil, sPass, mNot, mAnd, mOr, mTru, mN, mCons, mNil, m1, m2, m3c, mVar, mC, mB, isB, isTru, List.getElem?_cons_zero, List.getElem?_cons_succ, List.set_cons_zero, List.set_cons_succ, bindR_ok, bindS_ok, Option.isSome_some, Option.isSome_none, Bool.and_self, Bool.not_true, Bool.not_false, Bool.false_eq_true, if_true, if_false, mInC, mNotInC, List.cons_append, List.nil_append, methS O.E (mn := Str.ofString "table_of") rfl, table_ofF O.E e, l1, l2, l3, i, methS O.E (mn := Str.ofString "lay_frame") rfl, c]
theorem ix_tup2 (u v x : MV) (h : MH) : mIxA (.tup [u, v, x]) (.int 2) h = .ok x h := by
  unfold mIxA isDk asD mIx asS atI
  simp only [Option.isSome_none, Bool.false_eq_true, if_false, L2.ixN]
  simp
theorem ix_tup1 (u v : MV) (l : List MV) (h : MH) : mIxA (.tup (u :: v :: l)) (.int 1) h = .ok v h := by
  have z : (1 : Int) < (l.length : Int) + 1 + 1 := by omega
  unfold mIxA isDk asD mIx asS atI
  simp only [Option.isSome_none, Bool.false_eq_true, if_false, L2.ixN]
  simp [z]
/-- no great entry there -/
theorem part_no (E : Enc ix s h) {w : Tn} {t} (e : aget w s.ta = some t) {a f : Int} {b : Bool} (ea : aget a t = some (f, b, false)) : m_Store_part_at [.ref (ix .st), kW w, .int a] h = .ok .non h := by
  refine fnM_nx (σ := [some (.ref (ix .st)), some (kW w), some (.int a), some (.ref (ix (.tab w))), none, none]) ?_
  show mb_Store_part_at [some (.ref (ix .st)), some (kW w), some (.int a), none, none, none] h = _
  have i2 : mIxA (entA a (f, b, false)) (.int 2) h = .ok (.bl false) h := ix_tup2 _ _ _ h
  unfold mb_Store_part_at
  simp only [sSeq, sIf, sExpr, sRet, sSet, sNil, sPass, mNot, mAnd, mOr, mTru, mN, mCons, mNil, m1, m2, m3c, mVar, mC, mB, isB, isTru, List.getElem?_cons_zero, List.getElem?_cons_succ, List.set_cons_zero, List.set_cons_succ, bindR_ok, bindS_ok, Option.isSome_some, Option.isSome_none, Bool.and_self, Bool.not_true, Bool.not_false, Bool.false_eq_true, if_true, if_false, mInC, mNotInC, List.cons_append, List.nil_append, fld_ta E, ix_dct E.ta keyM_wd mk_wd e, ix_dct (E.tab e) keyM_int mk_int ea, i2]
noncomputable def sharP (s : Sto) (w : Tn) (t2 : List (Int × Ent)) (a f : Int) (b : Bool) (w2 : Tn) (a2 : Int) : Sto :=
  match aget f s.mo with
  | none => tieP s w2 t2 a2 f b
  | some m => if (aget (w, a) m.rt).isSome = true then { tieP s w2 t2 a2 f b with mo := aput f { m with rt := aput (w2, a2) true m.rt } s.mo } else tieP s w2 t2 a2 f b
theorem share_i (O : Own ix s h P) {w w2 : Tn} {t t2} (e : aget w s.ta = some t) (e2 : aget w2 s.ta = some t2) {a a2 f : Int} {b : Bool} (ea : aget a t = some (f, b, false)) (ea2 : aget a2 t2 = none) (z0 : 0 ≤ a) (z1 : a ≤ 31) (z2 : 0 ≤ a2) (z3 : a2 ≤ 31)
    (k : okS (tieP s w2 t2 a2 f b) = true) (k2 : okS (sharP s w t2 a f b w2 a2) = true) : Res (m_Store_share [.ref (ix .st), kW w, .int a, kW w2, .int a2] h) .non (ix .st) (sharP s w t2 a f b w2 a2) P := by
  obtain ⟨ix', h1, e3, O3, q3⟩ := tie_i O e2 (a := a2) (f := f) (b := b) k
  have c := (cN_val (n := 5) rfl).trans e3
  have pn := (cN_val (n := 3) rfl).trans (part_no O.E e ea)
  have l1 := cF_val0 (n := 1) rfl (addr_i a2 h z2 z3)
  have i := in_dct false (O.E.tab e2) keyM_int mk_int a2
  rw [ea2] at i
  have O3e := O3.E
  have gt := get_dct O3e.mo keyM_int mk_int f
  have dk := dk_dct O3e.mo
  have fm := fld_mo O3e
  rw [q3] at fm
  have en := entryF O.E e ea z0 z1
  have moe : (tieP s w2 t2 a2 f b).mo = s.mo := rfl
  have gm : gmTup (gmCons (gmName 5) (gmCons (gmName 6) (gmCons (gmName 7) gmNil))) 3 (entM (f, b, false)) [some (.ref (ix .st)), some (kW w), some (.int a), some (kW w2), some (.int a2), none, none, none, none, none] h =
    .ok [some (.ref (ix .st)), some (kW w), some (.int a), some (kW w2), some (.int a2), some (.int f), some (.str (rtS b).str), some (.bl false), none, none] h := rfl
  cases em : aget f s.mo with
  | none =>
    have sp : sharP s w t2 a f b w2 a2 = tieP s w2 t2 a2 f b := by unfold sharP; rw [em]
    rw [moe, em] at gt
    rw [sp]
    refine ⟨ix', h1, fnM_nx (σ := [some (.ref (ix .st)), some (kW w), some (.int a), some (kW w2), some (.int a2), some (.int f), some (.str (rtS b).str), some (.bl false), some (.ref (ix (.tab w2))), some .non]) ?_, O3, q3⟩
    show mb_Store_share [some (.ref (ix .st)), some (kW w), some (.int a), some (kW w2), some (.int a2), none, none, none, none, none] h = _
    unfold mb_Store_share
    simp only [sSeq, sIf, sExpr, sRet, sSet, sNil, sPass, mNot, mAnd, mOr, mTru, mN, mCons, mNil, m1, m2, m3c, mVar, mC, mB, isB, isTru, List.getElem?_cons_zero, List.getElem?_cons_succ, List.set_cons_zero, List.set_cons_succ, bindR_ok, bindS_ok, Option.isSome_some, Option.isSome_none, Bool.and_self, Bool.not_true, Bool.not_false, Bool.false_eq_true, if_true, if_false, mInC, mNotInC, List.cons_append, List.nil_append, sAsg, methS O.E (mn := Str.ofString "entry_at") rfl, en, gm, methS O.E (mn := Str.ofString "table_of") rfl, table_ofF O.E e2, l1, i, methS O.E (mn := Str.ofString "part_at") rfl, pn, methS O.E (mn := Str.ofString "tie") rfl, c, m2D, fm, dk, gt, Option.map_none, Option.getD_none, mIsNot, mIsN]
  | some m =>
    have io := in_dtt false (O3e.rtf (by rw [moe]; exact em)) (w, a)
    have fr := fld_rt O3e (f := f) (m := m) (by rw [moe]; exact em)
    rw [moe, em] at gt
    cases er : aget (w, a) m.rt with
    | none =>
      have sp : sharP s w t2 a f b w2 a2 = tieP s w2 t2 a2 f b := by unfold sharP; simp only [em, er, Option.isSome_none, Bool.false_eq_true, if_false]
      rw [er] at io
      have io' : mInCX false (.tup [kW w, .int a]) (.ref (ix' (.rtf f))) h1 = .ok (.bl false) h1 := io
      rw [sp]
      refine ⟨ix', h1, fnM_nx (σ := [some (.ref (ix .st)), some (kW w), some (.int a), some (kW w2), some (.int a2), some (.int f), some (.str (rtS b).str), some (.bl false), some (.ref (ix (.tab w2))), some (.ref (ix' (.mvf f)))]) ?_, O3, q3⟩
      show mb_Store_share [some (.ref (ix .st)), some (kW w), some (.int a), some (kW w2), some (.int a2), none, none, none, none, none] h = _
      unfold mb_Store_share
      simp only [sSeq, sIf, sExpr, sRet, sSet, sNil, sPass, mNot, mAnd, mOr, mTru, mN, mCons, mNil, m1, m2, m3c, mVar, mC, mB, isB, isTru, List.getElem?_cons_zero, List.getElem?_cons_succ, List.set_cons_zero, List.set_cons_succ, bindR_ok, bindS_ok, Option.isSome_some, Option.isSome_none, Bool.and_self, Bool.not_true, Bool.not_false, Bool.false_eq_true, if_true, if_false, mInC, mNotInC, List.cons_append, List.nil_append, sAsg, methS O.E (mn := Str.ofString "entry_at") rfl, en, gm, methS O.E (mn := Str.ofString "table_of") rfl, table_ofF O.E e2, l1, i, methS O.E (mn := Str.ofString "part_at") rfl, pn, methS O.E (mn := Str.ofString "tie") rfl, c, m2D, fm, dk, gt, Option.map_some, Option.getD_some, mIsNot, mIsN, mkTup, List.length_cons, List.length_nil, show (0 + 1 + 1 ≤ SZ) = True from eq_true (by decide), fr, io']
    | some b0 =>
      have sp : sharP s w t2 a f b w2 a2 = { tieP s w2 t2 a2 f b with mo := aput f { m with rt := aput (w2, a2) true m.rt } s.mo } := by unfold sharP; simp only [em, er, Option.isSome_some, if_true]
      rw [er] at io
      have io' : mInCX false (.tup [kW w, .int a]) (.ref (ix' (.rtf f))) h1 = .ok (.bl true) h1 := io
      have okr := O3e.oks.rtf f m (by rw [moe]; exact em)
      have x9 : sSetC (mC (.bl true)) (m1 (mFld [1] (Str.ofString "right_ones")) (mVar 9)) (mN mkTup (mCons (mVar 3) (mCons (mVar 4) mNil)))
          [some (.ref (ix .st)), some (kW w), some (.int a), some (kW w2), some (.int a2), some (.int f), some (.str (rtS b).str), some (.bl false), some (.ref (ix (.tab w2))), some (.ref (ix' (.mvf f)))] h1 =
          .nx [some (.ref (ix .st)), some (kW w), some (.int a), some (kW w2), some (.int a2), some (.int f), some (.str (rtS b).str), some (.bl false), some (.ref (ix (.tab w2))), some (.ref (ix' (.mvf f)))] (h1.set (ix' (.rtf f)) (MO.dtt (putKV (encA kS blA m.rt) (kS (w2, a2)) (.bl true)))) :=
        set_dtt (x := .bl true) (h1 := h1) (h := h1) (k := (w2, a2)) rfl (by simp only [sSeq, sIf, sExpr, sRet, sSet, sNil, sPass, mNot, mAnd, mOr, mTru, mN, mCons, mNil, m1, m2, m3c, mVar, mC, mB, isB, isTru, List.getElem?_cons_zero, List.getElem?_cons_succ, List.set_cons_zero, List.set_cons_succ, bindR_ok, bindS_ok, Option.isSome_some, Option.isSome_none, Bool.and_self, Bool.not_true, Bool.not_false, Bool.false_eq_true, if_true, if_false, mInC, mNotInC, List.cons_append, List.nil_append, fr]) rfl (O3e.rtf (by rw [moe]; exact em)) okr
      rw [put_enc (f := blA) (k := (w2, a2)) (v := true) (x := .bl true) keyM_spt rfl (okL_nod okr)] at x9
      rw [sp] at k2 ⊢
      refine ⟨ix', _, fnM_nx (σ := [some (.ref (ix .st)), some (kW w), some (.int a), some (kW w2), some (.int a2), some (.int f), some (.str (rtS b).str), some (.bl false), some (.ref (ix (.tab w2))), some (.ref (ix' (.mvf f)))])
        (h' := h1.set (ix' (.rtf f)) (MO.dtt (encA kS blA (aput (w2, a2) true m.rt)))) ?_, ?_, q3⟩
      · show mb_Store_share [some (.ref (ix .st)), some (kW w), some (.int a), some (kW w2), some (.int a2), none, none, none, none, none] h = _
        unfold mb_Store_share
        simp only [sSeq, sIf, sExpr, sRet, sSet, sNil, sPass, mNot, mAnd, mOr, mTru, mN, mCons, mNil, m1, m2, m3c, mVar, mC, mB, isB, isTru, List.getElem?_cons_zero, List.getElem?_cons_succ, List.set_cons_zero, List.set_cons_succ, bindR_ok, bindS_ok, Option.isSome_some, Option.isSome_none, Bool.and_self, Bool.not_true, Bool.not_false, Bool.false_eq_true, if_true, if_false, mInC, mNotInC, List.cons_append, List.nil_append, sAsg, methS O.E (mn := Str.ofString "entry_at") rfl, en, gm, methS O.E (mn := Str.ofString "table_of") rfl, table_ofF O.E e2, l1, i, methS O.E (mn := Str.ofString "part_at") rfl, pn, methS O.E (mn := Str.ofString "tie") rfl, c, m2D, fm, dk, gt, Option.map_some, Option.getD_some, mIsNot, mIsN, mkTup, List.length_cons, List.length_nil, show (0 + 1 + 1 ≤ SZ) = True from eq_true (by decide), fr, io']
        exact x9
      · refine O3.set (cont_rtf (s := tieP s w2 t2 a2 f b) (f := f) (m := m) em) ?_ k2 fun r o n1 c => ?_
        · simp only [cont, aget_aput, if_true, Option.map_some]
        · cases r with
          | mo =>
            simp only [cont] at c ⊢
            rw [enc_key (F := fun f => MV.ref (ix' (.mvf f))) em] at c
            exact c
          | rtf g =>
            have : ¬ f = g := fun q => n1 (by rw [q])
            simp only [cont, moe, aget_aput, if_neg this] at c ⊢
            exact c
          | mvf g =>
            by_cases q : f = g
            · subst q
              simp only [cont, aget_aput, if_true, Option.map_some, moe, em] at c ⊢
              exact c
            · simp only [cont, moe, aget_aput, if_neg q] at c ⊢
              exact c
          | _ => exact c
end
end MP
namespace MP
open PySem PySem.Spec PyProof.Rows L2
theorem fldM {cs : List Nat} {F : Str} {rv ro : EM} {σ : Lo} {h h1 h2 : MH} {n k : Nat} {fs : List (Str × MV)} {v : MV} (ev : rv σ h = .ok v h1) (eo : ro σ h1 = .ok (.ref n) h2) (e : h2[n]? = some (.ins k fs)) (c : (cs.contains k && decide (fs.length < 1000)) = true) :
    sFldM cs F rv ro σ h = .nx σ (h2.set n (.ins k (putFs F v fs))) := by
  unfold sFldM
  rw [ev, bindS_ok, eo, bindS_ok]
  simp only [e, c, if_true, setH]
section
variable {ix : Ro → Nat} {s s' : Sto} {h h' : MH} {P : List (Nat × MO)}
/-- two new roles behind the heap -/
theorem Own.new2 (O : Own ix s h P) {r1 r2 p : Ro} {o1 o2 op op' : MO} (n12 : r1 ≠ r2) (hp : cont ix s p = some op) (np1 : p ≠ r1) (np2 : p ≠ r2)
    (c1 : cont (upx (upx ix r1 h.length) r2 (h.length + 1)) s' r1 = some o1) (c2 : cont (upx (upx ix r1 h.length) r2 (h.length + 1)) s' r2 = some o2) (cp : cont (upx (upx ix r1 h.length) r2 (h.length + 1)) s' p = some op') (k : okS s' = true)
    (c : ∀ r o, r ≠ r1 → r ≠ r2 → r ≠ p → cont (upx (upx ix r1 h.length) r2 (h.length + 1)) s' r = some o → cont ix s r = some o) : Own (upx (upx ix r1 h.length) r2 (h.length + 1)) s' ((h ++ [o1, o2]).set (ix p) op') P := by
  have lv : ∀ r o, r ≠ r1 → r ≠ r2 → cont (upx (upx ix r1 h.length) r2 (h.length + 1)) s' r = some o → ∃ o', cont ix s r = some o' := fun r o y1 y2 e => by
    by_cases z : r = p
    · subst z; exact ⟨_, hp⟩
    · exact ⟨_, c r o y1 y2 z e⟩
  have u1 : upx (upx ix r1 h.length) r2 (h.length + 1) r1 = h.length := by unfold upx; rw [if_neg n12, if_pos rfl]
  have u2 : upx (upx ix r1 h.length) r2 (h.length + 1) r2 = h.length + 1 := by unfold upx; rw [if_pos rfl]
  have u3 : ∀ r, r ≠ r1 → r ≠ r2 → upx (upx ix r1 h.length) r2 (h.length + 1) r = ix r := fun r y1 y2 => by unfold upx; rw [if_neg y2, if_neg y1]
  have lp := O.E.lt hp
  have big : ∀ r o, cont ix s r = some o → ix r < h.length := fun r o e => O.E.lt e
  generalize hix : upx (upx ix r1 h.length) r2 (h.length + 1) = ix' at *
  refine ⟨⟨fun r o e => ?_, fun r r' o o' e e' q => ?_, k⟩, fun q m => ?_, fun q m r o e => ?_⟩
  · by_cases y1 : r = r1
    · subst y1
      rw [c1] at e; cases e
      rw [u1, List.getElem?_set_ne (by omega), List.getElem?_append_right (by omega)]; simp
    · by_cases y2 : r = r2
      · subst y2
        rw [c2] at e; cases e
        rw [u2, List.getElem?_set_ne (by omega), List.getElem?_append_right (by omega)]; simp
      · rw [u3 r y1 y2]
        by_cases z : r = p
        · subst z
          rw [cp] at e; cases e
          exact List.getElem?_set_self (by rw [List.length_append]; omega)
        · have e0 := c r o y1 y2 z e
          rw [List.getElem?_set_ne (O.E.ne hp e0 (Ne.symm z)), List.getElem?_append_left (big r o e0)]
          exact O.E.gt r o e0
  · by_cases y1 : r = r1 <;> by_cases y1' : r' = r1
    · rw [y1, y1']
    · by_cases y2' : r' = r2
      · rw [y1, y2', u1, u2] at q; omega
      · obtain ⟨b, eb⟩ := lv r' o' y1' y2' e'
        have := big r' b eb
        rw [y1, u1, u3 r' y1' y2'] at q; omega
    · by_cases y2 : r = r2
      · rw [y1', y2, u1, u2] at q; omega
      · obtain ⟨b, eb⟩ := lv r o y1 y2 e
        have := big r b eb
        rw [y1', u1, u3 r y1 y2] at q; omega
    · by_cases y2 : r = r2 <;> by_cases y2' : r' = r2
      · rw [y2, y2']
      · obtain ⟨b, eb⟩ := lv r' o' y1' y2' e'
        have := big r' b eb
        rw [y2, u2, u3 r' y1' y2'] at q; omega
      · obtain ⟨b, eb⟩ := lv r o y1 y2 e
        have := big r b eb
        rw [y2', u2, u3 r y1 y2] at q; omega
      · rw [u3 r y1 y2, u3 r' y1' y2'] at q
        obtain ⟨a, ea⟩ := lv r o y1 y2 e
        obtain ⟨b, eb⟩ := lv r' o' y1' y2' e'
        exact O.E.inj r r' a b ea eb q
  · rw [List.getElem?_set_ne (O.un q m p op hp), List.getElem?_append_left (O.lt m)]; exact O.fr q m
  · have lq := O.lt m
    by_cases y1 : r = r1
    · rw [y1, u1]; omega
    · by_cases y2 : r = r2
      · rw [y2, u2]; omega
      · rw [u3 r y1 y2]
        obtain ⟨b, eb⟩ := lv r o y1 y2 e
        exact O.un q m r b eb
noncomputable def newP (n : Int) : Sto := { size := n, wo := [], ho := [], ke := [], pi := [], sp := [], ta := [], mo := [] }
noncomputable def roN : Ro → Nat
  | .st => 0 | .wo => 1 | .ho => 2 | .ke => 3 | .pi => 4 | .sp => 5 | .ta => 6 | .mo => 7 | _ => 8
noncomputable def roI : Nat → Ro
  | 0 => .st | 1 => .wo | 2 => .ho | 3 => .ke | 4 => .pi | 5 => .sp | 6 => .ta | _ => .mo
noncomputable def newX (n : Nat) : Ro → Nat := fun r => n + roN r
noncomputable def newH (n : Nat) (z : Int) : MH := [.ins 0 (stF (newX n) z), .dct [], .dct [], .dct [], .dct [], .dct [], .dct [], .dct []]
theorem new_own (h : MH) (P : List (Nat × MO)) (z : Int) (z0 : 0 ≤ z) (z1 : z ≤ 64) (fr : ∀ p ∈ P, h[p.1]? = some p.2) : Own (newX h.length) (newP z) (h ++ newH h.length z) P := by
  have lv : ∀ r o, cont (newX h.length) (newP z) r = some o → (newH h.length z)[roN r]? = some o ∧ roI (roN r) = r := fun r o e => by
    cases r with
    | spf f => cases e
    | tab w => cases e
    | mvf f => cases e
    | rtf f => cases e
    | _ => cases e; exact ⟨rfl, rfl⟩
  refine ⟨⟨fun r o e => ?_, fun r r' o o' e e' q => ?_, ?_⟩, fun p m => ?_, fun p m r o e => ?_⟩
  · unfold newX
    rw [List.getElem?_append_right (by omega)]
    simpa using (lv r o e).1
  · have q : roN r = roN r' := by unfold newX at q; omega
    rw [← (lv r o e).2, ← (lv r' o' e').2, q]
  · unfold okS newP
    simp only [decide_eq_true z0, decide_eq_true z1]
    rfl
  · rw [List.getElem?_append_left (List.getElem?_eq_some_iff.mp (fr p m)).1]; exact fr p m
  · have := (List.getElem?_eq_some_iff.mp (fr p m)).1
    unfold newX; omega
end
end MP
namespace MP
open PySem PySem.Spec PyProof.Rows L2
theorem get_mid (h ds : MH) (o : MO) : (h ++ (o :: ds))[h.length]? = some o := by
  rw [List.getElem?_append_right (Nat.le_refl _)]; simp
theorem set_mid (h ds : MH) (o o' : MO) : (h ++ (o :: ds)).set h.length o' = h ++ (o' :: ds) := by
  rw [List.set_append_right _ _ (Nat.le_refl _)]; simp
theorem fld_new {cs : List Nat} {F : Str} {rv : EM} {σ : Lo} {h ds ds' : MH} {k : Nat} {fs : List (Str × MV)} {v : MV} (ev : rv σ (h ++ (.ins k fs :: ds)) = .ok v (h ++ (.ins k fs :: ds'))) (s0 : σ[0]? = some (some (.ref h.length))) (c : (cs.contains k && decide (fs.length < 1000)) = true) :
    sFldM cs F rv (mVar 0) σ (h ++ (.ins k fs :: ds)) = .nx σ (h ++ (.ins k (putFs F v fs) :: ds')) := by
  rw [fldM (v := v) (h1 := h ++ (.ins k fs :: ds')) (h2 := h ++ (.ins k fs :: ds')) (n := h.length) ev (by simp only [mVar, s0]) (get_mid h ds' _) c, set_mid]
theorem dict_new (h ds : MH) (o : MO) (σ : Lo) : mDict σ (h ++ (o :: ds)) = .ok (.ref (h.length + (ds.length + 1))) (h ++ (o :: (ds ++ [.dct []]))) := by
  unfold mDict
  rw [List.length_append, List.length_cons, List.append_assoc]; rfl
noncomputable def isz (s : Int) : Bool := decide (8 ≤ s) && decide (s ≤ 64) && decide (s % 8 = 0)
theorem size_i (s : Int) (h : MH) (z : isz s = true) : m_look_at_size [.int s] h = .ok .non h := by
  simp only [isz, Bool.and_eq_true, decide_eq_true_eq] at z
  have e := cF_val0 (n := 3) rfl (from_i s 8 64 h)
  have e2 : m_is_size [.int s] h = .ok (.bl true) h := by
    simp [m_is_size, mb_is_size, c_LOT, c_MOST_SIZE, e, z, mod_int]
  have e3 := cF_val0 (n := 1) rfl e2
  simp [m_look_at_size, mb_look_at_size, e3, isTru]
theorem make_i (z : Int) (hz : isz z = true) (h : MH) : mMake 0 2 m_Store___init__ [.int z] h = .ok (.ref h.length) (h ++ newH h.length z) := by
  have l := cF_val0 (n := 1) rfl (size_i z (h ++ [.ins 0 []]) hz)
  have x0 : sExpr (mN (cF 1 m_look_at_size) (mCons (mVar 1) mNil)) [some (.ref h.length), some (.int z)] (h ++ [.ins 0 []]) = .nx [some (.ref h.length), some (.int z)] (h ++ [.ins 0 []]) := by
    simp only [sSeq, sIf, sExpr, sRet, sSet, sNil, sPass, mNot, mAnd, mOr, mTru, mN, mCons, mNil, m1, m2, m3c, mVar, mC, mB, isB, isTru, List.getElem?_cons_zero, List.getElem?_cons_succ, List.set_cons_zero, List.set_cons_succ, bindR_ok, bindS_ok, Option.isSome_some, Option.isSome_none, Bool.and_self, Bool.not_true, Bool.not_false, Bool.false_eq_true, if_true, if_false, mInC, mNotInC, List.cons_append, List.nil_append, l]
  have x1 := fld_new (cs := [0]) (F := Str.ofString "own_size") (rv := mVar 1) (σ := [some (.ref h.length), some (.int z)]) (h := h) (ds := []) (ds' := []) (k := 0) (fs := []) (v := .int z) rfl rfl rfl
  have x2 := fld_new (cs := [0]) (F := Str.ofString "worths") (σ := [some (.ref h.length), some (.int z)]) (k := 0) (fs := [(Str.ofString "own_size", .int z)]) (dict_new h [] _ _) rfl rfl
  have x3 := fld_new (cs := [0]) (F := Str.ofString "house_frames") (σ := [some (.ref h.length), some (.int z)]) (k := 0) (fs := [(Str.ofString "own_size", .int z), (Str.ofString "worths", .ref (h.length + 1))]) (dict_new h [.dct []] _ _) rfl rfl
  have x4 := fld_new (cs := [0]) (F := Str.ofString "kept_worths") (σ := [some (.ref h.length), some (.int z)]) (k := 0) (fs := [(Str.ofString "own_size", .int z), (Str.ofString "worths", .ref (h.length + 1)), (Str.ofString "house_frames", .ref (h.length + 2))]) (dict_new h [.dct [], .dct []] _ _) rfl rfl
  have x5 := fld_new (cs := [0]) (F := Str.ofString "own_pins") (σ := [some (.ref h.length), some (.int z)]) (k := 0) (fs := [(Str.ofString "own_size", .int z), (Str.ofString "worths", .ref (h.length + 1)), (Str.ofString "house_frames", .ref (h.length + 2)), (Str.ofString "kept_worths", .ref (h.length + 3))]) (dict_new h [.dct [], .dct [], .dct []] _ _) rfl rfl
  have x6 := fld_new (cs := [0]) (F := Str.ofString "spots") (σ := [some (.ref h.length), some (.int z)]) (k := 0) (fs := [(Str.ofString "own_size", .int z), (Str.ofString "worths", .ref (h.length + 1)), (Str.ofString "house_frames", .ref (h.length + 2)), (Str.ofString "kept_worths", .ref (h.length + 3)), (Str.ofString "own_pins", .ref (h.length + 4))]) (dict_new h [.dct [], .dct [], .dct [], .dct []] _ _) rfl rfl
  have x7 := fld_new (cs := [0]) (F := Str.ofString "tables") (σ := [some (.ref h.length), some (.int z)]) (k := 0) (fs := [(Str.ofString "own_size", .int z), (Str.ofString "worths", .ref (h.length + 1)), (Str.ofString "house_frames", .ref (h.length + 2)), (Str.ofString "kept_worths", .ref (h.length + 3)), (Str.ofString "own_pins", .ref (h.length + 4)), (Str.ofString "spots", .ref (h.length + 5))]) (dict_new h [.dct [], .dct [], .dct [], .dct [], .dct []] _ _) rfl rfl
  have x8 := fld_new (cs := [0]) (F := Str.ofString "own_moves") (σ := [some (.ref h.length), some (.int z)]) (k := 0) (fs := [(Str.ofString "own_size", .int z), (Str.ofString "worths", .ref (h.length + 1)), (Str.ofString "house_frames", .ref (h.length + 2)), (Str.ofString "kept_worths", .ref (h.length + 3)), (Str.ofString "own_pins", .ref (h.length + 4)), (Str.ofString "spots", .ref (h.length + 5)), (Str.ofString "tables", .ref (h.length + 6))]) (dict_new h [.dct [], .dct [], .dct [], .dct [], .dct [], .dct []] _ _) rfl rfl
  have main : m_Store___init__ [.ref h.length, .int z] (h ++ [.ins 0 []]) = .ok .non (h ++ newH h.length z) := by
    exact fnM_nx (σ := [some (.ref h.length), some (.int z)]) <| (seq_nx x0).trans ((seq_nx x1).trans ((seq_nx x2).trans ((seq_nx x3).trans ((seq_nx x4).trans ((seq_nx x5).trans ((seq_nx x6).trans ((seq_nx x7).trans x8)))))))
  unfold mMake
  simp only [List.length_cons, List.length_nil, if_true, main]
section
variable {ix : Ro → Nat} {s s' : Sto} {h h' : MH} {P : List (Nat × MO)}
noncomputable def begP (s : Sto) (f to : Int) : Sto := { s with mo := aput f ⟨to, false, []⟩ s.mo }
theorem mk_mv (h : MH) (f to : Int) : mMake 1 3 m_Move___init__ [.int f, .int to] h = .ok (.ref h.length) (h ++ [.ins 1 [(Str.ofString "frame_from", .int f), (Str.ofString "frame_to", .int to), (Str.ofString "has_copied", .bl false), (Str.ofString "right_ones", .ref (h.length + 1))], .dtt []]) := by
  have x1 := fld_new (cs := [1]) (F := Str.ofString "frame_from") (rv := mVar 1) (σ := [some (.ref h.length), some (.int f), some (.int to)]) (h := h) (ds := []) (ds' := []) (k := 1) (fs := []) (v := .int f) rfl rfl rfl
  have x2 := fld_new (cs := [1]) (F := Str.ofString "frame_to") (rv := mVar 2) (σ := [some (.ref h.length), some (.int f), some (.int to)]) (h := h) (ds := []) (ds' := []) (k := 1) (fs := [(Str.ofString "frame_from", .int f)]) (v := .int to) rfl rfl rfl
  have x3 := fld_new (cs := [1]) (F := Str.ofString "has_copied") (rv := mC (.bl false)) (σ := [some (.ref h.length), some (.int f), some (.int to)]) (h := h) (ds := []) (ds' := []) (k := 1) (fs := [(Str.ofString "frame_from", .int f), (Str.ofString "frame_to", .int to)]) (v := .bl false) rfl rfl rfl
  have dn : mDictT [some (.ref h.length), some (.int f), some (.int to)] (h ++ [.ins 1 [(Str.ofString "frame_from", .int f), (Str.ofString "frame_to", .int to), (Str.ofString "has_copied", .bl false)]]) =
      .ok (.ref (h.length + 1)) (h ++ (.ins 1 [(Str.ofString "frame_from", .int f), (Str.ofString "frame_to", .int to), (Str.ofString "has_copied", .bl false)] :: [.dtt []])) := by
    unfold mDictT
    rw [List.length_append, List.append_assoc]; rfl
  have x4 := fld_new (cs := [1]) (F := Str.ofString "right_ones") (σ := [some (.ref h.length), some (.int f), some (.int to)]) (k := 1) dn rfl rfl
  have main : m_Move___init__ [.ref h.length, .int f, .int to] (h ++ [.ins 1 []]) = .ok .non (h ++ [.ins 1 [(Str.ofString "frame_from", .int f), (Str.ofString "frame_to", .int to), (Str.ofString "has_copied", .bl false), (Str.ofString "right_ones", .ref (h.length + 1))], .dtt []]) := by
    exact fnM_nx (σ := [some (.ref h.length), some (.int f), some (.int to)]) <| (seq_nx x1).trans ((seq_nx x2).trans ((seq_nx x3).trans x4))
  unfold mMake
  simp only [List.length_cons, List.length_nil, if_true, main]
end
end MP
namespace MP
open PySem PySem.Spec PyProof.Rows L2
theorem forGo_list {chk : MH → Bool} {g : GM} {body : SM} {α : Type} {q : α → MV} (Q : List α → Lo → MH → Prop) (step : ∀ x xs σ h, Q (x :: xs) σ h → chk h = true ∧ ∃ σ1 h1, g (q x) σ h = .ok σ1 h1 ∧ ∃ σ2 h2, body σ1 h1 = .nx σ2 h2 ∧ Q xs σ2 h2)
    (last : ∀ σ h, Q [] σ h → chk h = true) : ∀ (l : List α) (σ : Lo) (h : MH), Q l σ h → ∃ σ' h', forGo chk g body (l.map q) σ h = .nx σ' h' ∧ Q [] σ' h'
  | [], σ, h, p => ⟨σ, h, by rw [List.map_nil, forGo, if_pos (last σ h p)], p⟩
  | x :: xs, σ, h, p => by
    obtain ⟨hc, σ1, h1, e1, σ2, h2, e2, p2⟩ := step x xs σ h p
    obtain ⟨σ', h', e, q'⟩ := forGo_list Q step last xs σ2 h2 p2
    exact ⟨σ', h', by rw [List.map_cons, forGo, if_pos hc, e1]; simp only [e2]; exact e, q'⟩
section
variable {ix : Ro → Nat} {s s' : Sto} {h h' : MH} {P : List (Nat × MO)}
theorem eqC_ne {n : Nat} {l : List (Spt × Bool)} (e : h[n]? = some (.dtt (encA kS blA l))) (ne : l ≠ []) : mEqC (.ref n) (.dv [] []) h = .ok (.bl false) h := by
  have l0 : (encA kS blA l).length ≠ 0 := by rw [len_enc]; cases l with | nil => exact absurd rfl ne | cons _ _ => simp
  unfold mEqC mEqA mEq eqMV eqSt eqDM eq0M asD asTD
  simp only [toD, e, orB, List.zip_nil_right, l0, decide_false, Bool.false_eq_true, if_false]
theorem begin_i (O : Own ix s h P) (W : wsB s = true) {f to : Int} (z0 : 0 ≤ f) (z1 : f < s.size) (y0 : 0 ≤ to) (y1 : to < s.size) {r : List Dd} (hw : whD s f = .tup (.st .tenants :: r)) {l} (el : aget f s.sp = some l) (ne : l ≠ []) (hp : aget f s.pi = none) (hm : aget f s.mo = none)
    (ht : frB s to = true) (he : ∀ p ∈ isrt leS2 (l.map (·.1)), ∃ t g b, aget p.1 s.ta = some t ∧ aget p.2 t = some (g, b, false)) (k : okS (begP s f to) = true) : Res (m_Store_begin [.ref (ix .st), .int f, .int to] h) .non (ix .st) (begP s f to) P := by
  have E := O.E
  have w0 : cF 2 m_Store_what [.ref (ix .st), .int f] h = .ok (.tup (.str (Str.ofString "tenants") :: ddMs r)) h := by rw [whatF E W f z0 z1, hw]; rfl
  have i0 : mIxA (.tup (.str (Str.ofString "tenants") :: ddMs r)) (.int 0) h = .ok (.str (Str.ofString "tenants")) h := ix_tup0 _ _ h
  have n0 : mNeA (.str (Str.ofString "tenants")) (.str (Str.ofString "tenants")) h = .ok (.bl false) h := neA_dd (x := .st .tenants) (y := .st .tenants) (by decide) (by decide) h
  have w1 := whatF E W to y0 y1
  have n1 : mNeA (ddM (whD s to)) (.tup [.str (Str.ofString "free")]) h = .ok (.bl false) h := by
    have := neA_dd (x := whD s to) (y := frD) (by have := dep_wh s to; omega) (by decide) h
    rw [fr_wh, ht] at this
    exact this
  have ec := eqC_ne (E.spf el) ne
  have ip := in_dct false E.pi keyM_int mk_int f
  have im := in_dct false E.mo keyM_int mk_int f
  rw [hp] at ip
  rw [hm] at im
  have sr := srt_spots (fin := finV) (E.spf el) (E.oks.spf f l el)
  have lp := forGo_list (chk := fun _ => true) (g := gmTup (gmCons (gmName 3) (gmCons (gmName 4) gmNil)) 2) (body := lb_Store_begin_0) (q := kS) (fun xs σ h' => (∀ p ∈ xs, ∃ t g b, aget p.1 s.ta = some t ∧ aget p.2 t = some (g, b, false)) ∧ h' = h ∧ ∃ u v, σ = [some (.ref (ix .st)), some (.int f), some (.int to), u, v])
    (fun x xs σ h' q => by
      obtain ⟨qa, rfl, u, v, rfl⟩ := q
      obtain ⟨t, g, b, et, ea⟩ := qa x List.mem_cons_self
      have pn := (cN_val (n := 3) rfl).trans (part_no E et ea)
      refine ⟨rfl, [some (.ref (ix .st)), some (.int f), some (.int to), some (kW x.1), some (.int x.2)], h', rfl, [some (.ref (ix .st)), some (.int f), some (.int to), some (kW x.1), some (.int x.2)], h', ?_, fun p m => qa p (List.mem_cons_of_mem _ m), rfl, _, _, rfl⟩
      unfold lb_Store_begin_0
      simp only [sSeq, sIf, sExpr, sRet, sSet, sNil, sPass, mNot, mAnd, mOr, mTru, mN, mCons, mNil, m1, m2, m3c, mVar, mC, mB, isB, isTru, List.getElem?_cons_zero, List.getElem?_cons_succ, List.set_cons_zero, List.set_cons_succ, bindR_ok, bindS_ok, Option.isSome_some, Option.isSome_none, Bool.and_self, Bool.not_true, Bool.not_false, Bool.false_eq_true, if_true, if_false, mInC, mNotInC, List.cons_append, List.nil_append, methS E (mn := Str.ofString "part_at") rfl, pn]) (fun _ _ _ => rfl) (isrt leS2 (l.map (·.1))) [some (.ref (ix .st)), some (.int f), some (.int to), none, none] h ⟨he, rfl, _, _, rfl⟩
  obtain ⟨σ2, h2, lp, -, rfl, u, v, rfl⟩ := lp
  have G := E.grow [.ins 1 [(Str.ofString "frame_from", .int f), (Str.ofString "frame_to", .int to), (Str.ofString "has_copied", .bl false), (Str.ofString "right_ones", .ref (h2.length + 1))], .dtt []]
  have st : sSetC (mN (mMake 1 3 m_Move___init__) (mCons (mVar 1) (mCons (mVar 2) mNil))) (m1 (mFld [0] (Str.ofString "own_moves")) (mVar 0)) (mVar 1) [some (.ref (ix .st)), some (.int f), some (.int to), u, v] h2 =
      .nx [some (.ref (ix .st)), some (.int f), some (.int to), u, v] ((h2 ++ [MO.ins 1 [(Str.ofString "frame_from", .int f), (Str.ofString "frame_to", .int to), (Str.ofString "has_copied", .bl false), (Str.ofString "right_ones", .ref (h2.length + 1))], MO.dtt []]).set (ix .mo)
        (MO.dct (putKV (encA .int (fun f _ => .ref (ix (.mvf f))) s.mo) (.int f) (.ref h2.length)))) :=
    set_dct (x := .ref h2.length) (h1 := (h2 ++ [MO.ins 1 [(Str.ofString "frame_from", .int f), (Str.ofString "frame_to", .int to), (Str.ofString "has_copied", .bl false), (Str.ofString "right_ones", .ref (h2.length + 1))], MO.dtt []])) (h := (h2 ++ [MO.ins 1 [(Str.ofString "frame_from", .int f), (Str.ofString "frame_to", .int to), (Str.ofString "has_copied", .bl false), (Str.ofString "right_ones", .ref (h2.length + 1))], MO.dtt []])) (k := f) (by simp only [sSeq, sIf, sExpr, sRet, sSet, sNil, sPass, mNot, mAnd, mOr, mTru, mN, mCons, mNil, m1, m2, m3c, mVar, mC, mB, isB, isTru, List.getElem?_cons_zero, List.getElem?_cons_succ, List.set_cons_zero, List.set_cons_succ, bindR_ok, bindS_ok, Option.isSome_some, Option.isSome_none, Bool.and_self, Bool.not_true, Bool.not_false, Bool.false_eq_true, if_true, if_false, mInC, mNotInC, List.cons_append, List.nil_append, mk_mv]) (by simp only [sSeq, sIf, sExpr, sRet, sSet, sNil, sPass, mNot, mAnd, mOr, mTru, mN, mCons, mNil, m1, m2, m3c, mVar, mC, mB, isB, isTru, List.getElem?_cons_zero, List.getElem?_cons_succ, List.set_cons_zero, List.set_cons_succ, bindR_ok, bindS_ok, Option.isSome_some, Option.isSome_none, Bool.and_self, Bool.not_true, Bool.not_false, Bool.false_eq_true, if_true, if_false, mInC, mNotInC, List.cons_append, List.nil_append, fld_mo G]) rfl G.mo keyM_int mk_int E.oks.mo
  have pe : putKV (encA MV.int (fun f (_ : Mv) => MV.ref (ix (.mvf f))) s.mo) (.int f) (.ref h2.length) = encA MV.int (fun g (_ : Mv) => MV.ref (upx (upx ix (.mvf f) h2.length) (.rtf f) (h2.length + 1) (.mvf g))) (aput f ⟨to, false, []⟩ s.mo) :=
    put_enc' keyM_int (by unfold upx; rw [if_neg (by intro q; cases q), if_pos rfl]) (fun j nj _ => by unfold upx; rw [if_neg (by intro q; cases q), if_neg (fun q => nj (by injection q))]) (okL_nod E.oks.mo)
  rw [pe] at st
  refine ⟨upx (upx ix (.mvf f) h2.length) (.rtf f) (h2.length + 1), _, fnM_nx (σ := [some (.ref (ix .st)), some (.int f), some (.int to), u, v])
    (h' := (h2 ++ [MO.ins 1 [(Str.ofString "frame_from", .int f), (Str.ofString "frame_to", .int to), (Str.ofString "has_copied", .bl false), (Str.ofString "right_ones", .ref (h2.length + 1))], MO.dtt []]).set (ix .mo)
        (MO.dct (encA MV.int (fun g (_ : Mv) => MV.ref (upx (upx ix (.mvf f) h2.length) (.rtf f) (h2.length + 1) (.mvf g))) (aput f ⟨to, false, []⟩ s.mo)))) ?_, ?_, ?_⟩
  · show mb_Store_begin [some (.ref (ix .st)), some (.int f), some (.int to), none, none] h2 = _
    unfold mb_Store_begin
    simp only [sSeq, sIf, sExpr, sRet, sSet, sNil, sPass, mNot, mAnd, mOr, mTru, mN, mCons, mNil, m1, m2, m3c, mVar, mC, mB, isB, isTru, List.getElem?_cons_zero, List.getElem?_cons_succ, List.set_cons_zero, List.set_cons_succ, bindR_ok, bindS_ok, Option.isSome_some, Option.isSome_none, Bool.and_self, Bool.not_true, Bool.not_false, Bool.false_eq_true, if_true, if_false, mInC, mNotInC, List.cons_append, List.nil_append, methS E (mn := Str.ofString "what") rfl, w0, i0, n0, fld_sp E, ix_dct E.sp keyM_int mk_int el, mDictV, finDV, List.map_nil, ec, fld_pi E, ip, fld_mo E, im, w1, mkTup, List.length_cons, List.length_nil, show (0 + 1 ≤ SZ) = True from eq_true (by decide), n1, sFor, iL, sr, finV, itL, lp]
    exact st
  · refine O.new2 (r1 := .mvf f) (r2 := .rtf f) (p := .mo) (by intro q; cases q) rfl (by intro q; cases q) (by intro q; cases q) ?_ ?_ rfl k fun r o n1 n2 n3 c => ?_
    · simp only [cont, begP, aget_aput, if_true, Option.map_some, mvF]
      unfold upx
      rw [if_pos rfl]
    · simp only [cont, begP, aget_aput, if_true, Option.map_some]; rfl
    · cases r with
      | mo => exact absurd rfl n3
      | mvf g =>
        have q : ¬ f = g := fun q => n1 (by rw [q])
        simp only [cont, begP, aget_aput, if_neg q] at c ⊢
        have u : mvF (upx (upx ix (.mvf f) h2.length) (.rtf f) (h2.length + 1)) g = mvF ix g := by
          funext m
          unfold mvF upx
          rw [if_neg (fun z => q (by injection z with z; exact z.symm)), if_neg (by intro z; cases z)]
        rw [u] at c
        exact c
      | rtf g =>
        have q : ¬ f = g := fun q => n2 (by rw [q])
        simp only [cont, begP, aget_aput, if_neg q] at c ⊢
        exact c
      | _ => exact c
  · unfold upx; rw [if_neg (by intro q; cases q), if_neg (by intro q; cases q)]
theorem step_copy (O : Own ix s h P) {f : Int} {m : Mv} (em : aget f s.mo = some m) (hc : m.cop = false) (k : okS { s with mo := aput f { m with cop := true } s.mo } = true) :
    Res (m_Store_step [.ref (ix .st), .int f] h) (ddM (.tup [.st .copied])) (ix .st) { s with mo := aput f { m with cop := true } s.mo } P := by
  have E := O.E
  have fc := fld_cop E em
  rw [hc] at fc
  have x : sFldM [1] (Str.ofString "has_copied") (mC (.bl true)) (mVar 2) [some (.ref (ix .st)), some (.int f), some (.ref (ix (.mvf f))), none, none] h =
      .nx [some (.ref (ix .st)), some (.int f), some (.ref (ix (.mvf f))), none, none] (h.set (ix (.mvf f)) (MO.ins 1 (mvF ix f { m with cop := true }))) := fldM (v := .bl true) (h1 := h) (h2 := h) rfl rfl (E.mvf em) rfl
  refine ⟨ix, _, fnM_rt (v := ddM (.tup [.st .copied])) (h' := h.set (ix (.mvf f)) (MO.ins 1 (mvF ix f { m with cop := true }))) ?_, ?_, rfl⟩
  · show mb_Store_step [some (.ref (ix .st)), some (.int f), none, none, none] h = _
    unfold mb_Store_step
    simp only [sSeq, sIf, sExpr, sRet, sSet, sNil, sPass, mNot, mAnd, mOr, mTru, mN, mCons, mNil, m1, m2, m3c, mVar, mC, mB, isB, isTru, List.getElem?_cons_zero, List.getElem?_cons_succ, List.set_cons_zero, List.set_cons_succ, bindR_ok, bindS_ok, Option.isSome_some, Option.isSome_none, Bool.and_self, Bool.not_true, Bool.not_false, Bool.false_eq_true, if_true, if_false, mInC, mNotInC, List.cons_append, List.nil_append, methS E (mn := Str.ofString "move_of") rfl, move_ofF E em, fc, x, mkTup, List.length_cons, List.length_nil, show (0 + 1 ≤ SZ) = True from eq_true (by decide)]
    rfl
  · refine O.set (cont_mvf em) ?_ k fun r o n1 c => ?_
    · simp only [cont, aget_aput, if_true, Option.map_some]
    · cases r with
      | mo =>
        simp only [cont] at c ⊢
        rw [enc_key (F := fun f => MV.ref (ix (.mvf f))) em] at c
        exact c
      | mvf g =>
        have q : ¬ f = g := fun q => n1 (by rw [q])
        simpa only [cont, aget_aput, if_neg q] using c
      | rtf g =>
        by_cases q : f = g
        · subst q
          simp only [cont, aget_aput, if_true, Option.map_some, em] at c ⊢
          exact c
        · simpa only [cont, aget_aput, if_neg q] using c
      | _ => exact c
noncomputable def restP (m : Mv) (l : List Spt) : List Spt := l.filter fun p => !(aget p m.rt).isSome
theorem rest_go (E : Enc ix s h) {f : Int} {m : Mv} (em : aget f s.mo = some m) (l : List Spt) (z : Option MV) : lcGo (fun _ => true) (.nm 4) lt_Store_step_0 le_Store_step_0 (l.map kS) (clrL [4] [some (.ref (ix .st)), some (.int f), some (.ref (ix (.mvf f))), z, none]) h = .ok ((restP m l).map kS) h := by
  refine lcGo_map rfl fun p _ => ⟨[some (.ref (ix .st)), some (.int f), some (.ref (ix (.mvf f))), z, some (kS p)], rfl, ?_, fun _ => rfl⟩
  have i := in_dtt true (E.rtf em) p
  unfold lt_Store_step_0
  simp only [sSeq, sIf, sExpr, sRet, sSet, sNil, sPass, mNot, mAnd, mOr, mTru, mN, mCons, mNil, m1, m2, m3c, mVar, mC, mB, isB, isTru, List.getElem?_cons_zero, List.getElem?_cons_succ, List.set_cons_zero, List.set_cons_succ, bindR_ok, bindS_ok, Option.isSome_some, Option.isSome_none, Bool.and_self, Bool.not_true, Bool.not_false, Bool.false_eq_true, if_true, if_false, mInC, mNotInC, List.cons_append, List.nil_append, fld_rt E em, i]
theorem ne_nilA {l : List Spt} (h : MH) : mNeA (.lv (l.map kS)) (.lv []) h = .ok (.bl (!l.isEmpty)) h := by
  have := neA_dd (x := .li (l.map spD)) (y := .li []) (by rw [depD]; have := depDs_map dep_sp l; omega) (by decide) h
  rw [ddM, ddM_sps] at this
  rw [show MV.lv [] = ddM (.li []) from rfl, this]
  cases l <;> rfl
theorem step_right (O : Own ix s h P) {f : Int} {m : Mv} (em : aget f s.mo = some m) (hc : m.cop = true) {l} (el : aget f s.sp = some l) {p : Spt} {rr : List Spt} (er : restP m (isrt leS2 (l.map (·.1))) = p :: rr) (k : okS { s with mo := aput f { m with rt := aput p true m.rt } s.mo } = true) :
    Res (m_Store_step [.ref (ix .st), .int f] h) (ddM (.tup [.st .right, .st (.w p.1), .int p.2])) (ix .st) { s with mo := aput f { m with rt := aput p true m.rt } s.mo } P := by
  have E := O.E
  have fc := fld_cop E em
  rw [hc] at fc
  have okl := E.oks.spf f l el
  have okr := E.oks.rtf f m em
  have sr := srt_spots (fin := finV) (E.spf el) okl
  have go := rest_go E em (isrt leS2 (l.map (·.1))) none
  rw [er] at go
  have ln : ((isrt leS2 (l.map (·.1))).map kS).length ≤ SZ := by
    rw [List.length_map, (isrt_perm _ _).length_eq, List.length_map]; exact Nat.le_of_lt (Nat.lt_trans (okL_len okl) (by decide))
  have nn : mNeA (.lv (kS p :: rr.map kS)) (.lv []) h = .ok (.bl true) h := ne_nilA (l := p :: rr) h
  have i0 : ∀ g : MH, mIxA (.lv (kS p :: rr.map kS)) (.int 0) g = .ok (kS p) g := fun g => by
    unfold mIxA isDk asD mIx asS atI
    simp only [Option.isSome_none, Bool.false_eq_true, if_false, L2.ixN]
    simp
  have x : sSetC (mC (.bl true)) (m1 (mFld [1] (Str.ofString "right_ones")) (mVar 2)) (m2 mIxA (mVar 3) (mC (.int 0))) [some (.ref (ix .st)), some (.int f), some (.ref (ix (.mvf f))), some (.lv (kS p :: rr.map kS)), none] h =
      .nx [some (.ref (ix .st)), some (.int f), some (.ref (ix (.mvf f))), some (.lv (kS p :: rr.map kS)), none] (h.set (ix (.rtf f)) (MO.dtt (putKV (encA kS blA m.rt) (kS p) (.bl true)))) :=
    set_dtt (x := .bl true) (h1 := h) (h := h) (k := p) rfl (by simp only [sSeq, sIf, sExpr, sRet, sSet, sNil, sPass, mNot, mAnd, mOr, mTru, mN, mCons, mNil, m1, m2, m3c, mVar, mC, mB, isB, isTru, List.getElem?_cons_zero, List.getElem?_cons_succ, List.set_cons_zero, List.set_cons_succ, bindR_ok, bindS_ok, Option.isSome_some, Option.isSome_none, Bool.and_self, Bool.not_true, Bool.not_false, Bool.false_eq_true, if_true, if_false, mInC, mNotInC, List.cons_append, List.nil_append, fld_rt E em]) (by simp only [sSeq, sIf, sExpr, sRet, sSet, sNil, sPass, mNot, mAnd, mOr, mTru, mN, mCons, mNil, m1, m2, m3c, mVar, mC, mB, isB, isTru, List.getElem?_cons_zero, List.getElem?_cons_succ, List.set_cons_zero, List.set_cons_succ, bindR_ok, bindS_ok, Option.isSome_some, Option.isSome_none, Bool.and_self, Bool.not_true, Bool.not_false, Bool.false_eq_true, if_true, if_false, mInC, mNotInC, List.cons_append, List.nil_append, i0]) (E.rtf em) okr
  rw [put_enc (f := blA) (k := p) (v := true) (x := .bl true) keyM_spt rfl (okL_nod okr)] at x
  have ad : ∀ g : MH, mAdd finV (.tup [.str (Str.ofString "right")]) (kS p) g = .ok (ddM (.tup [.st .right, .st (.w p.1), .int p.2])) g := fun g => rfl
  refine ⟨ix, _, fnM_rt (v := ddM (.tup [.st .right, .st (.w p.1), .int p.2])) (h' := h.set (ix (.rtf f)) (MO.dtt (encA kS blA (aput p true m.rt)))) ?_, ?_, rfl⟩
  · show mb_Store_step [some (.ref (ix .st)), some (.int f), none, none, none] h = _
    unfold mb_Store_step
    simp only [sSeq, sIf, sExpr, sRet, sSet, sNil, sPass, mNot, mAnd, mOr, mTru, mN, mCons, mNil, m1, m2, m3c, mVar, mC, mB, isB, isTru, List.getElem?_cons_zero, List.getElem?_cons_succ, List.set_cons_zero, List.set_cons_succ, bindR_ok, bindS_ok, Option.isSome_some, Option.isSome_none, Bool.and_self, Bool.not_true, Bool.not_false, Bool.false_eq_true, if_true, if_false, mInC, mNotInC, List.cons_append, List.nil_append, methS E (mn := Str.ofString "move_of") rfl, move_ofF E em, fc, mLc, iL, fld_sp E, ix_dct E.sp keyM_int mk_int el, sr, finV, itL, if_pos ln, go, mkLv, List.length_nil, show (0 ≤ SZ) = True from eq_true (by decide), nn, List.isEmpty_cons, List.map_cons, x]
    simp only [sSeq, sIf, sExpr, sRet, sSet, sNil, sPass, mNot, mAnd, mOr, mTru, mN, mCons, mNil, m1, m2, m3c, mVar, mC, mB, isB, isTru, List.getElem?_cons_zero, List.getElem?_cons_succ, List.set_cons_zero, List.set_cons_succ, bindR_ok, bindS_ok, Option.isSome_some, Option.isSome_none, Bool.and_self, Bool.not_true, Bool.not_false, Bool.false_eq_true, if_true, if_false, mInC, mNotInC, List.cons_append, List.nil_append, mkTup, List.length_cons, List.length_nil, show (0 + 1 ≤ SZ) = True from eq_true (by decide), i0]
    rfl
  · refine O.set (cont_rtf em) ?_ k fun r o n1 c => ?_
    · simp only [cont, aget_aput, if_true, Option.map_some]
    · cases r with
      | mo =>
        simp only [cont] at c ⊢
        rw [enc_key (F := fun f => MV.ref (ix (.mvf f))) em] at c
        exact c
      | rtf g =>
        have q : ¬ f = g := fun q => n1 (by rw [q])
        simpa only [cont, aget_aput, if_neg q] using c
      | mvf g =>
        by_cases q : f = g
        · subst q
          simp only [cont, aget_aput, if_true, Option.map_some, em] at c ⊢
          exact c
        · simpa only [cont, aget_aput, if_neg q] using c
      | _ => exact c
end
end MP
namespace MP
open PySem PySem.Spec PyProof.Rows L2
section
variable {κ α : Type} [DecidableEq κ]
theorem len_key {k : κ} {v v' : α} : ∀ {l : List (κ × α)}, aget k l = some v → (aput k v' l).length = l.length
  | [], h => by cases h
  | (i, w) :: r, h => by
    unfold aget at h
    unfold aput
    by_cases e : i = k
    · rw [if_pos e]; rfl
    · rw [if_neg e] at h ⊢
      rw [List.length_cons, List.length_cons, len_key h]
theorem nod_adel (k : κ) : ∀ {l : List (κ × α)}, nodA l = true → nodA (adel k l) = true
  | [], _ => rfl
  | (i, w) :: r, n => by
    have n0 := n
    unfold nodA at n
    rw [Bool.and_eq_true] at n
    unfold adel
    by_cases e : i = k
    · rw [if_pos e]; exact n.2
    · rw [if_neg e, nodA, aget_adel k i n.2, if_neg (fun q => e q.symm), n.1, nod_adel k n.2]; rfl
theorem len_adel (k : κ) : ∀ l : List (κ × α), (adel k l).length ≤ l.length
  | [] => Nat.le_refl _
  | (i, w) :: r => by
    unfold adel
    by_cases e : i = k
    · rw [if_pos e]; exact Nat.le_succ _
    · rw [if_neg e]; exact Nat.succ_le_succ (len_adel k r)
theorem okL_adel (k : κ) {l : List (κ × α)} (h : okL l = true) : okL (adel k l) = true := by
  have a := okL_nod h
  have b := okL_len h
  have c := len_adel k l
  unfold okL sml
  rw [nod_adel k a, decide_eq_true (by omega)]; rfl
theorem okL_key {k : κ} {v v' : α} {l : List (κ × α)} (h : okL l = true) (e : aget k l = some v) : okL (aput k v' l) = true := by
  unfold okL sml
  rw [nod_aput k v' (okL_nod h), len_key e, decide_eq_true (okL_len h)]; rfl
end
theorem okS_of {s : Sto} (h : OkS s) : okS s = true := by
  unfold okS
  simp only [Bool.and_eq_true, List.all_eq_true, decide_eq_true_eq]
  exact ⟨⟨⟨⟨⟨⟨⟨⟨⟨⟨⟨h.wo, h.ho⟩, h.ke⟩, h.pi⟩, h.sp⟩, h.ta⟩, h.mo⟩, fun p hp => h.spf p.1 p.2 (aget_of_mem (okL_nod h.sp) hp)⟩, fun p hp => h.tab p.1 p.2 (aget_of_mem (okL_nod h.ta) hp)⟩, fun p hp => h.rtf p.1 p.2 (aget_of_mem (okL_nod h.mo) hp)⟩, h.z0⟩, h.z64⟩
theorem okS_ent {s : Sto} (h : OkS s) {w : Tn} {t} (e : aget w s.ta = some t) {a : Int} {d d' : Ent} (ea : aget a t = some d) : OkS { s with ta := aput w (aput a d' t) s.ta } := by
  have okt := h.tab w t e
  refine { h with ta := okL_key h.ta e, tab := fun v u q => ?_ }
  rw [aget_aput] at q
  by_cases z : w = v
  · rw [if_pos z] at q; cases q; exact okL_key okt ea
  · rw [if_neg z] at q; exact h.tab v u q
theorem okS_dmo {s : Sto} (h : OkS s) (f : Int) : OkS { s with mo := adel f s.mo } := by
  refine { h with mo := okL_adel f h.mo, rtf := fun g m q => ?_ }
  rw [aget_adel f g (okL_nod h.mo)] at q
  by_cases z : f = g
  · rw [if_pos z] at q; cases q
  · rw [if_neg z] at q; exact h.rtf g m q
theorem okS_dwo {s : Sto} (h : OkS s) (f : Int) : OkS { s with wo := adel f s.wo } := { h with wo := okL_adel f h.wo }
theorem okS_dsp {s : Sto} (h : OkS s) (f : Int) : OkS { s with sp := adel f s.sp } := by
  refine { h with sp := okL_adel f h.sp, spf := fun g m q => ?_ }
  rw [aget_adel f g (okL_nod h.sp)] at q
  by_cases z : f = g
  · rw [if_pos z] at q; cases q
  · rw [if_neg z] at q; exact h.spf g m q
noncomputable def finG (to : Int) : List Spt → List (Tn × List (Int × Ent)) → Option (List (Tn × List (Int × Ent)))
  | [], ta => some ta
  | (w, a) :: r, ta => match aget w ta with
    | none => none
    | some t => match aget a t with
      | none => none
      | some e => finG to r (aput w (aput a (to, e.2.1, false) t) ta)
section
variable {ix : Ro → Nat} {s s' : Sto} {h h' : MH} {P : List (Nat × MO)}
theorem fin_go (n : Nat) (X : MO) (f to : Int) (vm : MV) {l : List (Spt × Bool)} (ln : aget to s.sp = some l) (hn : ix (.spf to) = n) : ∀ (r : List Spt) (ta ta2 : List (Tn × List (Int × Ent))) (h : MH) (z4 z5 z6 z7 z8 : Option MV), Own ix { s with ta := ta } h P → finG to r ta = some ta2 →
    ∃ h2 y4 y5 y6 y7 y8, forGo (fun _ => true) (gmTup (gmCons (gmName 4) (gmCons (gmName 5) gmNil)) 2) lb_Store_finish_0 (r.map kS) [some (.ref (ix .st)), some vm, some (.int f), some (.int to), z4, z5, z6, z7, z8] (h.set n X) =
      .nx [some (.ref (ix .st)), some vm, some (.int f), some (.int to), y4, y5, y6, y7, y8] (h2.set n X) ∧ Own ix { s with ta := ta2 } h2 P
  | [], ta, ta2, h, z4, z5, z6, z7, z8, O, e => by
    cases e
    exact ⟨h, z4, z5, z6, z7, z8, rfl, O⟩
  | (w, a) :: r, ta, ta2, h, z4, z5, z6, z7, z8, O, e => by
    unfold finG at e
    cases et : aget w ta with
    | none => simp only [et] at e; cases e
    | some t =>
      cases ea : aget a t with
      | none => simp only [et, ea] at e; cases e
      | some d =>
        simp only [et, ea] at e
        subst hn
        have E := O.E
        have cn : cont ix { s with ta := ta } (.spf to) = some (.dtt (encA kS blA l)) := cont_spf ln
        have ct : cont ix { s with ta := ta } (.tab w) = some (.dct (encA .int entA t)) := cont_tab et
        have f1 : mFld [0] (Str.ofString "tables") (.ref (ix .st)) (h.set (ix (.spf to)) X) = .ok (.ref (ix .ta)) (h.set (ix (.spf to)) X) := fld_at (E.gs (r := .st) rfl cn (by intro q; cases q)) rfl rfl
        have g1 := E.gs (r := .ta) (x := X) rfl cn (by intro q; cases q)
        have g2 := E.gs (x := X) ct cn (by intro q; cases q)
        have i1 := ix_dct g1 keyM_wd mk_wd et
        have i2 := ix_dct g2 keyM_int mk_int ea
        have okt := E.oks.tab w t et
        have x2 : sSetC (mN mkTup (mCons (mVar 3) (mCons (mVar 7) (mCons (mC (.bl false)) mNil)))) (m2 mIxA (m1 (mFld [0] (Str.ofString "tables")) (mVar 0)) (mVar 4)) (mVar 5)
            [some (.ref (ix .st)), some vm, some (.int f), some (.int to), some (kW w), some (.int a), some (.int d.1), some (.str (rtS d.2.1).str), some (.bl d.2.2)] (h.set (ix (.spf to)) X) =
            .nx [some (.ref (ix .st)), some vm, some (.int f), some (.int to), some (kW w), some (.int a), some (.int d.1), some (.str (rtS d.2.1).str), some (.bl d.2.2)] ((h.set (ix (.spf to)) X).set (ix (.tab w)) (MO.dct (putKV (encA .int entA t) (.int a) (entM (to, d.2.1, false))))) :=
          set_dct (x := entM (to, d.2.1, false)) (h1 := h.set (ix (.spf to)) X) (h := h.set (ix (.spf to)) X) (k := a) rfl (by simp only [sSeq, sIf, sExpr, sRet, sSet, sNil, sPass, mNot, mAnd, mOr, mTru, mN, mCons, mNil, m1, m2, m3c, mVar, mC, mB, isB, isTru, List.getElem?_cons_zero, List.getElem?_cons_succ, List.set_cons_zero, List.set_cons_succ, bindR_ok, bindS_ok, Option.isSome_some, Option.isSome_none, Bool.and_self, Bool.not_true, Bool.not_false, Bool.false_eq_true, if_true, if_false, mInC, mNotInC, List.cons_append, List.nil_append, f1, i1]) rfl g2 keyM_int mk_int okt
        rw [put_enc (f := entA) (k := a) (v := (to, d.2.1, false)) (x := entM (to, d.2.1, false)) keyM_int rfl (okL_nod okt), List.set_comm _ _ (E.ne cn ct (by intro q; cases q))] at x2
        have gm : gmTup (gmCons (gmName 6) (gmCons (gmName 7) (gmCons (gmName 8) gmNil))) 3 (entA a d) [some (.ref (ix .st)), some vm, some (.int f), some (.int to), some (kW w), some (.int a), z6, z7, z8] (h.set (ix (.spf to)) X) =
            .ok [some (.ref (ix .st)), some vm, some (.int f), some (.int to), some (kW w), some (.int a), some (.int d.1), some (.str (rtS d.2.1).str), some (.bl d.2.2)] (h.set (ix (.spf to)) X) := rfl
        have x1 : lb_Store_finish_0 [some (.ref (ix .st)), some vm, some (.int f), some (.int to), some (kW w), some (.int a), z6, z7, z8] (h.set (ix (.spf to)) X) =
            .nx [some (.ref (ix .st)), some vm, some (.int f), some (.int to), some (kW w), some (.int a), some (.int d.1), some (.str (rtS d.2.1).str), some (.bl d.2.2)] ((h.set (ix (.tab w)) (MO.dct (encA .int entA (aput a (to, d.2.1, false) t)))).set (ix (.spf to)) X) := by
          unfold lb_Store_finish_0
          simp only [sSeq, sIf, sExpr, sRet, sSet, sNil, sPass, mNot, mAnd, mOr, mTru, mN, mCons, mNil, m1, m2, m3c, mVar, mC, mB, isB, isTru, List.getElem?_cons_zero, List.getElem?_cons_succ, List.set_cons_zero, List.set_cons_succ, bindR_ok, bindS_ok, Option.isSome_some, Option.isSome_none, Bool.and_self, Bool.not_true, Bool.not_false, Bool.false_eq_true, if_true, if_false, mInC, mNotInC, List.cons_append, List.nil_append, sAsg, f1, i1, i2, gm]
          exact x2
        have g0 : gmTup (gmCons (gmName 4) (gmCons (gmName 5) gmNil)) 2 (kS (w, a)) [some (.ref (ix .st)), some vm, some (.int f), some (.int to), z4, z5, z6, z7, z8] (h.set (ix (.spf to)) X) =
            .ok [some (.ref (ix .st)), some vm, some (.int f), some (.int to), some (kW w), some (.int a), z6, z7, z8] (h.set (ix (.spf to)) X) := rfl
        have O1 : Own ix { s with ta := aput w (aput a (to, d.2.1, false) t) ta } (h.set (ix (.tab w)) (MO.dct (encA .int entA (aput a (to, d.2.1, false) t)))) P := by
          refine O.set ct ?_ (okS_of (okS_ent (s := { s with ta := ta }) E.oks et ea)) fun r o n1 c => ?_
          · simp only [cont, aget_aput, if_true, Option.map_some]
          · cases r with
            | ta =>
              simp only [cont] at c ⊢
              rw [enc_key (F := fun w => MV.ref (ix (.tab w))) et] at c
              exact c
            | tab v =>
              have : ¬ w = v := fun q => n1 (by rw [q])
              simpa only [cont, aget_aput, if_neg this] using c
            | _ => exact c
        obtain ⟨h2, y4, y5, y6, y7, y8, eg, O2⟩ := fin_go (ix (.spf to)) X f to vm ln rfl r _ ta2 _ (some (kW w)) (some (.int a)) (some (.int d.1)) (some (.str (rtS d.2.1).str)) (some (.bl d.2.2)) O1 e
        refine ⟨h2, y4, y5, y6, y7, y8, ?_, O2⟩
        rw [List.map_cons, forGo, if_pos rfl, g0]
        simp only [x1]
        exact eg
noncomputable def finP (s : Sto) (f to x : Int) (l : List (Spt × Bool)) (ta : List (Tn × List (Int × Ent))) : Sto :=
  { s with mo := adel f s.mo, wo := aput to x (adel f s.wo), sp := aput to l (adel f s.sp), ta := ta }
theorem finish_i (O : Own ix s h P) {f : Int} {m : Mv} (em : aget f s.mo = some m) {x : Int} (ew : aget f s.wo = some x) {l} (el : aget f s.sp = some l) (et : aget m.to s.sp = none) {ta2} (eg : finG m.to (l.map (·.1)) s.ta = some ta2)
    (k : okS (finP s f m.to x l ta2) = true) : Res (m_Store_finish [.ref (ix .st), .ref (ix (.mvf f))] h) .non (ix .st) (finP s f m.to x l ta2) P := by
  have E := O.E
  have nft : f ≠ m.to := fun q => by rw [← q, el] at et; cases et
  have x1 : sPar 2 3 (mCons (m1 (mFld [1] (Str.ofString "frame_from")) (mVar 1)) (mCons (m1 (mFld [1] (Str.ofString "frame_to")) (mVar 1)) mNil)) [some (.ref (ix .st)), some (.ref (ix (.mvf f))), none, none, none, none, none, none, none] h =
      .nx [some (.ref (ix .st)), some (.ref (ix (.mvf f))), some (.int f), some (.int m.to), none, none, none, none, none] h := by
    simp only [sSeq, sIf, sExpr, sRet, sSet, sNil, sPass, mNot, mAnd, mOr, mTru, mN, mCons, mNil, m1, m2, m3c, mVar, mC, mB, isB, isTru, List.getElem?_cons_zero, List.getElem?_cons_succ, List.set_cons_zero, List.set_cons_succ, bindR_ok, bindS_ok, Option.isSome_some, Option.isSome_none, Bool.and_self, Bool.not_true, Bool.not_false, Bool.false_eq_true, if_true, if_false, mInC, mNotInC, List.cons_append, List.nil_append, sPar, fld_from E em, fld_to E em]
  -- the move goes
  have p1 := pop_dct E.mo keyM_int mk_int (okL_nod E.oks.mo) em
  have x2 : sExpr (m2D mDPop (m1 (mFld [0] (Str.ofString "own_moves")) (mVar 0)) (mVar 2)) [some (.ref (ix .st)), some (.ref (ix (.mvf f))), some (.int f), some (.int m.to), none, none, none, none, none] h =
      .nx [some (.ref (ix .st)), some (.ref (ix (.mvf f))), some (.int f), some (.int m.to), none, none, none, none, none] (h.set (ix .mo) (MO.dct (encA .int (fun f _ => .ref (ix (.mvf f))) (adel f s.mo)))) := by
    simp only [sSeq, sIf, sExpr, sRet, sSet, sNil, sPass, mNot, mAnd, mOr, mTru, mN, mCons, mNil, m1, m2, m3c, mVar, mC, mB, isB, isTru, List.getElem?_cons_zero, List.getElem?_cons_succ, List.set_cons_zero, List.set_cons_succ, bindR_ok, bindS_ok, Option.isSome_some, Option.isSome_none, Bool.and_self, Bool.not_true, Bool.not_false, Bool.false_eq_true, if_true, if_false, mInC, mNotInC, List.cons_append, List.nil_append, m2D, fld_mo E, dk_dct E.mo, p1]
  have O1 : Own ix { s with mo := adel f s.mo } (h.set (ix .mo) (MO.dct (encA .int (fun f _ => .ref (ix (.mvf f))) (adel f s.mo)))) P := by
    refine O.set (r0 := .mo) rfl rfl (okS_of (okS_dmo E.oks f)) fun r o n1 c => ?_
    cases r with
    | mo => exact absurd rfl n1
    | mvf g =>
      simp only [cont, aget_adel f g (okL_nod E.oks.mo)] at c ⊢
      by_cases z : f = g
      · rw [if_pos z] at c; cases c
      · rw [if_neg z] at c; exact c
    | rtf g =>
      simp only [cont, aget_adel f g (okL_nod E.oks.mo)] at c ⊢
      by_cases z : f = g
      · rw [if_pos z] at c; cases c
      · rw [if_neg z] at c; exact c
    | _ => exact c
  generalize h.set (ix .mo) (MO.dct (encA .int (fun f _ => .ref (ix (.mvf f))) (adel f s.mo))) = h1 at x2 O1
  -- the worth
  have E1 := O1.E
  have p2 := pop_dct E1.wo keyM_int mk_int (okL_nod E.oks.wo) ew
  have O2 : Own ix { s with mo := adel f s.mo, wo := adel f s.wo } (h1.set (ix .wo) (MO.dct (encA .int intA (adel f s.wo)))) P := by
    refine O1.set (r0 := .wo) rfl rfl (okS_of (okS_dwo (s := { s with mo := adel f s.mo }) E1.oks f)) fun r o n1 c => ?_
    cases r with
    | wo => exact absurd rfl n1
    | _ => exact c
  generalize hh2 : h1.set (ix .wo) (MO.dct (encA .int intA (adel f s.wo))) = h2 at O2
  have E2 := O2.E
  have x3 : sSetC (m2D mDPop (m1 (mFld [0] (Str.ofString "worths")) (mVar 0)) (mVar 2)) (m1 (mFld [0] (Str.ofString "worths")) (mVar 0)) (mVar 3) [some (.ref (ix .st)), some (.ref (ix (.mvf f))), some (.int f), some (.int m.to), none, none, none, none, none] h1 =
      .nx [some (.ref (ix .st)), some (.ref (ix (.mvf f))), some (.int f), some (.int m.to), none, none, none, none, none] (h2.set (ix .wo) (MO.dct (putKV (encA .int intA (adel f s.wo)) (.int m.to) (.int x)))) :=
    set_dct (x := .int x) (h1 := h2) (h := h2) (k := m.to) (by simp only [sSeq, sIf, sExpr, sRet, sSet, sNil, sPass, mNot, mAnd, mOr, mTru, mN, mCons, mNil, m1, m2, m3c, mVar, mC, mB, isB, isTru, List.getElem?_cons_zero, List.getElem?_cons_succ, List.set_cons_zero, List.set_cons_succ, bindR_ok, bindS_ok, Option.isSome_some, Option.isSome_none, Bool.and_self, Bool.not_true, Bool.not_false, Bool.false_eq_true, if_true, if_false, mInC, mNotInC, List.cons_append, List.nil_append, m2D, fld_wo E1, dk_dct E1.wo, p2, hh2]; rfl) (by simp only [sSeq, sIf, sExpr, sRet, sSet, sNil, sPass, mNot, mAnd, mOr, mTru, mN, mCons, mNil, m1, m2, m3c, mVar, mC, mB, isB, isTru, List.getElem?_cons_zero, List.getElem?_cons_succ, List.set_cons_zero, List.set_cons_succ, bindR_ok, bindS_ok, Option.isSome_some, Option.isSome_none, Bool.and_self, Bool.not_true, Bool.not_false, Bool.false_eq_true, if_true, if_false, mInC, mNotInC, List.cons_append, List.nil_append, fld_wo E2]) rfl E2.wo keyM_int mk_int (okL_adel f E.oks.wo)
  rw [put_enc (f := intA) (k := m.to) (v := x) (x := .int x) keyM_int rfl (nod_adel f (okL_nod E.oks.wo))] at x3
  have k3 : okS { s with mo := adel f s.mo, wo := aput m.to x (adel f s.wo) } = true := okS_mid E2.ok k (.inr rfl) (.inl rfl) (.inl rfl) (.inl rfl) (.inl rfl) (.inl rfl) (.inl rfl) rfl
  have O3 : Own ix { s with mo := adel f s.mo, wo := aput m.to x (adel f s.wo) } (h2.set (ix .wo) (MO.dct (encA .int intA (aput m.to x (adel f s.wo))))) P := by
    refine O2.set (r0 := .wo) rfl rfl k3 fun r o n1 c => ?_
    cases r with
    | wo => exact absurd rfl n1
    | _ => exact c
  generalize h2.set (ix .wo) (MO.dct (encA .int intA (aput m.to x (adel f s.wo)))) = h3 at x3 O3
  -- the spots
  have E3 := O3.E
  have p3 := pop_dct E3.sp keyM_int mk_int (okL_nod E.oks.sp) el
  have O4 : Own ix { s with mo := adel f s.mo, wo := aput m.to x (adel f s.wo), sp := adel f s.sp } (h3.set (ix .sp) (MO.dct (encA .int (fun f _ => .ref (ix (.spf f))) (adel f s.sp)))) P := by
    refine O3.set (r0 := .sp) rfl rfl (okS_of (okS_dsp (s := { s with mo := adel f s.mo, wo := aput m.to x (adel f s.wo) }) E3.oks f)) fun r o n1 c => ?_
    cases r with
    | sp => exact absurd rfl n1
    | spf g =>
      simp only [cont, aget_adel f g (okL_nod E.oks.sp)] at c ⊢
      by_cases z : f = g
      · rw [if_pos z] at c; cases c
      · rw [if_neg z] at c; exact c
    | _ => exact c
  have gsp : (h3.set (ix .sp) (MO.dct (encA .int (fun f _ => .ref (ix (.spf f))) (adel f s.sp))))[ix (.spf f)]? = some (.dtt (encA kS blA l)) := E3.gs (cont_spf el) (r0 := .sp) rfl (by intro q; cases q)
  generalize hh4 : h3.set (ix .sp) (MO.dct (encA .int (fun f _ => .ref (ix (.spf f))) (adel f s.sp))) = h4 at O4 gsp
  have E4 := O4.E
  have x4 : sSetC (m2D mDPop (m1 (mFld [0] (Str.ofString "spots")) (mVar 0)) (mVar 2)) (m1 (mFld [0] (Str.ofString "spots")) (mVar 0)) (mVar 3) [some (.ref (ix .st)), some (.ref (ix (.mvf f))), some (.int f), some (.int m.to), none, none, none, none, none] h3 =
      .nx [some (.ref (ix .st)), some (.ref (ix (.mvf f))), some (.int f), some (.int m.to), none, none, none, none, none] (h4.set (ix .sp) (MO.dct (putKV (encA .int (fun f _ => .ref (ix (.spf f))) (adel f s.sp)) (.int m.to) (.ref (ix (.spf f)))))) :=
    set_dct (x := .ref (ix (.spf f))) (h1 := h4) (h := h4) (k := m.to) (by simp only [sSeq, sIf, sExpr, sRet, sSet, sNil, sPass, mNot, mAnd, mOr, mTru, mN, mCons, mNil, m1, m2, m3c, mVar, mC, mB, isB, isTru, List.getElem?_cons_zero, List.getElem?_cons_succ, List.set_cons_zero, List.set_cons_succ, bindR_ok, bindS_ok, Option.isSome_some, Option.isSome_none, Bool.and_self, Bool.not_true, Bool.not_false, Bool.false_eq_true, if_true, if_false, mInC, mNotInC, List.cons_append, List.nil_append, m2D, fld_sp E3, dk_dct E3.sp, p3, hh4]) (by simp only [sSeq, sIf, sExpr, sRet, sSet, sNil, sPass, mNot, mAnd, mOr, mTru, mN, mCons, mNil, m1, m2, m3c, mVar, mC, mB, isB, isTru, List.getElem?_cons_zero, List.getElem?_cons_succ, List.set_cons_zero, List.set_cons_succ, bindR_ok, bindS_ok, Option.isSome_some, Option.isSome_none, Bool.and_self, Bool.not_true, Bool.not_false, Bool.false_eq_true, if_true, if_false, mInC, mNotInC, List.cons_append, List.nil_append, fld_sp E4]) rfl E4.sp keyM_int mk_int (okL_adel f E.oks.sp)
  have pe : putKV (encA MV.int (fun f (_ : List (Spt × Bool)) => MV.ref (ix (.spf f))) (adel f s.sp)) (.int m.to) (.ref (ix (.spf f))) = encA MV.int (fun g (_ : List (Spt × Bool)) => MV.ref (upx ix (.spf m.to) (ix (.spf f)) (.spf g))) (aput m.to l (adel f s.sp)) :=
    put_enc' keyM_int (by unfold upx; rw [if_pos rfl]) (fun j nj _ => by unfold upx; rw [if_neg (fun q => nj (by injection q))]) (nod_adel f (okL_nod E.oks.sp))
  rw [pe] at x4
  have k5 : okS { s with mo := adel f s.mo, wo := aput m.to x (adel f s.wo), sp := aput m.to l (adel f s.sp) } = true := okS_mid E4.ok k (.inl rfl) (.inl rfl) (.inl rfl) (.inl rfl) (.inr rfl) (.inl rfl) (.inl rfl) rfl
  have O5 : Own (upx ix (.spf m.to) (ix (.spf f))) { s with mo := adel f s.mo, wo := aput m.to x (adel f s.wo), sp := aput m.to l (adel f s.sp) } (h4.set (ix .sp) (MO.dct (encA MV.int (fun g (_ : List (Spt × Bool)) => MV.ref (upx ix (.spf m.to) (ix (.spf f)) (.spf g))) (aput m.to l (adel f s.sp))))) P := by
    refine O4.add (r0 := .spf m.to) (p := .sp) (fun r o c q => ?_) (fun p hp => O3.un p hp (.spf f) _ (cont_spf el)) gsp rfl (by intro q; cases q) ?_ rfl k5 fun r o n1 n2 c => ?_
    · have lv : ∃ o', cont ix { s with mo := adel f s.mo, wo := aput m.to x (adel f s.wo) } r = some o' ∧ r ≠ .spf f := by
        cases r with
        | sp => exact ⟨_, rfl, by intro q; cases q⟩
        | spf g =>
          simp only [cont, aget_adel f g (okL_nod E.oks.sp)] at c ⊢
          by_cases z : f = g
          · rw [if_pos z] at c; cases c
          · rw [if_neg z] at c
            exact ⟨o, c, fun q => z (by injection q with q; exact q.symm)⟩
        | _ => exact ⟨o, c, by intro q; cases q⟩
      obtain ⟨o', c', n'⟩ := lv
      exact n' (E3.inj _ _ _ _ c' (cont_spf el) q)
    · simp only [cont, aget_aput, if_true, Option.map_some]
    · cases r with
      | sp => exact absurd rfl n2
      | spf g =>
        have z : ¬ m.to = g := fun q => n1 (by rw [q])
        simpa only [cont, aget_aput, if_neg z] using c
      | _ => exact c
  generalize h4.set (ix .sp) (MO.dct (encA MV.int (fun g (_ : List (Spt × Bool)) => MV.ref (upx ix (.spf m.to) (ix (.spf f)) (.spf g))) (aput m.to l (adel f s.sp)))) = h5 at x4 O5
  have hst : upx ix (.spf m.to) (ix (.spf f)) .st = ix .st := by unfold upx; rw [if_neg (by intro q; cases q)]
  generalize upx ix (.spf m.to) (ix (.spf f)) = jx at O5 hst
  have E5 := O5.E
  have e5 : aget m.to (aput m.to l (adel f s.sp)) = some l := by rw [aget_aput, if_pos rfl]
  have c5 : cont jx { s with mo := adel f s.mo, wo := aput m.to x (adel f s.wo), sp := aput m.to l (adel f s.sp) } (.spf m.to) = some (.dtt (encA kS blA l)) := cont_spf e5
  have s5 := E5.gt _ _ c5
  obtain ⟨h6, y4, y5, y6, y7, y8, go, O6⟩ := fin_go (s := { s with mo := adel f s.mo, wo := aput m.to x (adel f s.wo), sp := aput m.to l (adel f s.sp) }) (jx (.spf m.to)) (.fdt (encA kS blA l)) f m.to (.ref (ix (.mvf f))) e5 rfl (l.map (·.1)) s.ta ta2 h5 none none none none none O5 eg
  have s6 : h6[jx (.spf m.to)]? = some (.dtt (encA kS blA l)) := O6.E.gt (.spf m.to) _ (cont_spf e5)
  have fm := fld_sp E5
  have i5 := ix_dct E5.sp keyM_int mk_int e5
  have l1 : lkH (.ref (jx (.spf m.to))) h5 = some (jx (.spf m.to), h5.set (jx (.spf m.to)) (.fdt (encA kS blA l))) := by
    unfold lkH; simp only [s5]; rfl
  have fm2 : mFld [0] (Str.ofString "spots") (.ref (jx .st)) (h5.set (jx (.spf m.to)) (.fdt (encA kS blA l))) = .ok (.ref (jx .sp)) (h5.set (jx (.spf m.to)) (.fdt (encA kS blA l))) := fld_at (E5.gs (r := .st) rfl c5 (by intro q; cases q)) rfl rfl
  have i52 := ix_dct (E5.gs (r := .sp) (x := .fdt (encA kS blA l)) rfl c5 (by intro q; cases q)) keyM_int mk_int e5
  have g5 : (h5.set (jx (.spf m.to)) (.fdt (encA kS blA l)))[jx (.spf m.to)]? = some (.fdt (encA kS blA l)) := List.getElem?_set_self (List.getElem?_eq_some_iff.mp s5).1
  have l2 : ulkH (jx (.spf m.to)) (h6.set (jx (.spf m.to)) (.fdt (encA kS blA l))) = some h6 := by
    have : (h6.set (jx (.spf m.to)) (.fdt (encA kS blA l)))[jx (.spf m.to)]? = some (.fdt (encA kS blA l)) := List.getElem?_set_self (List.getElem?_eq_some_iff.mp s6).1
    unfold ulkH; simp only [this, ulkO, lk_set s6]
  have km : (encA kS blA l).map (·.1) = (l.map (·.1)).map kS := by rw [fst_enc, List.map_map]; rfl
  have x5 : sLk (m2 mIxA (m1 (mFld [0] (Str.ofString "spots")) (mVar 0)) (mVar 3)) (sFor (iKR (m2 mIxA (m1 (mFld [0] (Str.ofString "spots")) (mVar 0)) (mVar 3))) (gmTup (gmCons (gmName 4) (gmCons (gmName 5) gmNil)) 2) lb_Store_finish_0)
      [some (.ref (ix .st)), some (.ref (ix (.mvf f))), some (.int f), some (.int m.to), none, none, none, none, none] h5 = .nx [some (.ref (ix .st)), some (.ref (ix (.mvf f))), some (.int f), some (.int m.to), y4, y5, y6, y7, y8] h6 := by
    rw [hst] at fm fm2 go
    simp only [sSeq, sIf, sExpr, sRet, sSet, sNil, sPass, mNot, mAnd, mOr, mTru, mN, mCons, mNil, m1, m2, m3c, mVar, mC, mB, isB, isTru, List.getElem?_cons_zero, List.getElem?_cons_succ, List.set_cons_zero, List.set_cons_succ, bindR_ok, bindS_ok, Option.isSome_some, Option.isSome_none, Bool.and_self, Bool.not_true, Bool.not_false, Bool.false_eq_true, if_true, if_false, mInC, mNotInC, List.cons_append, List.nil_append, sLk, sFor, iKR, fm, fm2, i5, i52, l1, itKR, g5, km, go, l2]
  exact ⟨jx, h6, fnM_nx ((seq_nx x1).trans ((seq_nx x2).trans ((seq_nx x3).trans ((seq_nx x4).trans x5)))), O6, hst⟩
theorem step_done (O : Own ix s h P) {f : Int} {m : Mv} (em : aget f s.mo = some m) (hc : m.cop = true) {x : Int} (ew : aget f s.wo = some x) {l} (el : aget f s.sp = some l) (er : restP m (isrt leS2 (l.map (·.1))) = []) (et : aget m.to s.sp = none) {ta2} (eg : finG m.to (l.map (·.1)) s.ta = some ta2)
    (k : okS (finP s f m.to x l ta2) = true) : Res (m_Store_step [.ref (ix .st), .int f] h) (ddM (.tup [.st .done])) (ix .st) (finP s f m.to x l ta2) P := by
  have E := O.E
  have fc := fld_cop E em
  rw [hc] at fc
  have okl := E.oks.spf f l el
  have sr := srt_spots (fin := finV) (E.spf el) okl
  have go := rest_go E em (isrt leS2 (l.map (·.1))) none
  rw [er] at go
  have ln : ((isrt leS2 (l.map (·.1))).map kS).length ≤ SZ := by
    rw [List.length_map, (isrt_perm _ _).length_eq, List.length_map]; exact Nat.le_of_lt (Nat.lt_trans (okL_len okl) (by decide))
  have nn : mNeA (.lv []) (.lv []) h = .ok (.bl false) h := ne_nilA (l := []) h
  obtain ⟨ix', h', e3, O3, q3⟩ := finish_i O em ew el et eg k
  have c := (cN_val (n := 2) rfl).trans e3
  refine ⟨ix', h', fnM_rt ?_, O3, q3⟩
  show mb_Store_step [some (.ref (ix .st)), some (.int f), none, none, none] h = _
  unfold mb_Store_step
  simp only [sSeq, sIf, sExpr, sRet, sSet, sNil, sPass, mNot, mAnd, mOr, mTru, mN, mCons, mNil, m1, m2, m3c, mVar, mC, mB, isB, isTru, List.getElem?_cons_zero, List.getElem?_cons_succ, List.set_cons_zero, List.set_cons_succ, bindR_ok, bindS_ok, Option.isSome_some, Option.isSome_none, Bool.and_self, Bool.not_true, Bool.not_false, Bool.false_eq_true, if_true, if_false, mInC, mNotInC, List.cons_append, List.nil_append, methS E (mn := Str.ofString "move_of") rfl, move_ofF E em, fc, mLc, iL, fld_sp E, ix_dct E.sp keyM_int mk_int el, sr, finV, itL, if_pos ln, go, mkLv, List.length_nil, show (0 ≤ SZ) = True from eq_true (by decide), nn, List.map_nil, methS E (mn := Str.ofString "finish") rfl, c]
  rfl
end
end MP
namespace MP
open PySem PySem.Spec PyProof.Rows L2
noncomputable def okO (s : Sto) : Option Sto := if okS s = true then some s else none
noncomputable def comeO (s : Sto) (w : Tn) : Option Sto := if (aget w s.ta).isNone = true then okO (comeP s w) else none
noncomputable def giveO (s : Sto) (w : Tn) (a x : Int) (b : Bool) : Option Sto := match aget w s.ta with
  | none => none
  | some t => if ((aget a t).isNone && (decide (0 ≤ a) && (decide (a ≤ 31) && (decide (-1000000000 ≤ x) && (decide (x ≤ 1000000000) && wsB s))))) = true then
      match (forT (freeP s) (lotsP s)).head? with
      | none => none
      | some y => okO (laidP s w t a x y b)
    else none
noncomputable def shareO (s : Sto) (w : Tn) (a : Int) (w2 : Tn) (a2 : Int) : Option Sto := match aget w s.ta with
  | none => none
  | some t => match aget w2 s.ta with
    | none => none
    | some t2 => match aget a t with
      | some (f, b, false) => if ((aget a2 t2).isNone && (decide (0 ≤ a) && (decide (a ≤ 31) && (decide (0 ≤ a2) && (decide (a2 ≤ 31) && okS (tieP s w2 t2 a2 f b)))))) = true then okO (sharP s w t2 a f b w2 a2) else none
      | _ => none
noncomputable def isTen : Dd → Bool
  | .tup (.st .tenants :: _) => true
  | _ => false
noncomputable def plainE (ta : List (Tn × List (Int × Ent))) (p : Spt) : Bool := match aget p.1 ta with
  | none => false
  | some t => match aget p.2 t with
    | some (_, _, false) => true
    | _ => false
noncomputable def begO (s : Sto) (f to : Int) : Option Sto :=
  if (decide (0 ≤ f) && (decide (f < s.size) && (decide (0 ≤ to) && (decide (to < s.size) && (wsB s && (isTen (whD s f) && ((aget f s.pi).isNone && ((aget f s.mo).isNone && frB s to)))))))) = true then
    match aget f s.sp with
    | none => none
    | some l => if (!l.isEmpty && (isrt leS2 (l.map (·.1))).all (plainE s.ta)) = true then okO (begP s f to) else none
  else none
noncomputable def withD (d : Dd) (o : Option Sto) : Option (Sto × Dd) := match o with
  | none => none
  | some s => some (s, d)
noncomputable def stepO (s : Sto) (f : Int) : Option (Sto × Dd) := match aget f s.mo with
  | none => none
  | some m => if m.cop = false then withD (.tup [.st .copied]) (okO { s with mo := aput f { m with cop := true } s.mo }) else
    match aget f s.sp with
    | none => none
    | some l => match restP m (isrt leS2 (l.map (·.1))) with
      | p :: _ => withD (.tup [.st .right, .st (.w p.1), .int p.2]) (okO { s with mo := aput f { m with rt := aput p true m.rt } s.mo })
      | [] => match aget f s.wo with
        | none => none
        | some x => match aget m.to s.sp with
          | some _ => none
          | none => match finG m.to (l.map (·.1)) s.ta with
            | none => none
            | some ta2 => withD (.tup [.st .done]) (okO (finP s f m.to x l ta2))
theorem okO_some {s s' : Sto} (h : okO s = some s') : okS s = true ∧ s = s' := by
  unfold okO at h
  by_cases e : okS s = true
  · rw [if_pos e] at h; cases h; exact ⟨e, rfl⟩
  · rw [if_neg e] at h; cases h
theorem withD_some {d d' : Dd} {o : Option Sto} {s' : Sto} (h : withD d o = some (s', d')) : o = some s' ∧ d = d' := by
  cases o with
  | none => cases h
  | some s => cases h; exact ⟨rfl, rfl⟩
section
variable {ix : Ro → Nat} {s s' : Sto} {h : MH} {P : List (Nat × MO)}
theorem come_o (O : Own ix s h P) {w : Tn} (e : comeO s w = some s') : Res (cN 2 m_Store_come [.ref (ix .st), kW w] h) .non (ix .st) s' P := by
  rw [show cN 2 m_Store_come [.ref (ix .st), kW w] h = m_Store_come [.ref (ix .st), kW w] h from cN_val rfl]
  unfold comeO at e
  by_cases z : (aget w s.ta).isNone = true
  · rw [if_pos z] at e
    obtain ⟨k, rfl⟩ := okO_some e
    exact come_i O (Option.isNone_iff_eq_none.mp z) k
  · rw [if_neg z] at e; cases e
theorem give_o (O : Own ix s h P) {w : Tn} {a x : Int} {b : Bool} (e : giveO s w a x b = some s') : Res (cN 5 m_Store_give [.ref (ix .st), kW w, .int a, .int x, .str (rtS b).str] h) .non (ix .st) s' P := by
  rw [show cN 5 m_Store_give [.ref (ix .st), kW w, .int a, .int x, .str (rtS b).str] h = m_Store_give [.ref (ix .st), kW w, .int a, .int x, .str (rtS b).str] h from cN_val rfl]
  unfold giveO at e
  cases et : aget w s.ta with
  | none => simp only [et] at e; cases e
  | some t =>
    simp only [et] at e
    by_cases z : ((aget a t).isNone && (decide (0 ≤ a) && (decide (a ≤ 31) && (decide (-1000000000 ≤ x) && (decide (x ≤ 1000000000) && wsB s))))) = true
    · rw [if_pos z] at e
      simp only [Bool.and_eq_true, decide_eq_true_eq] at z
      cases ey : (forT (freeP s) (lotsP s)).head? with
      | none => simp only [ey] at e; cases e
      | some y =>
        simp only [ey] at e
        obtain ⟨k, rfl⟩ := okO_some e
        exact give_i O z.2.2.2.2.2 et (Option.isNone_iff_eq_none.mp z.1) z.2.1 z.2.2.1 z.2.2.2.1 z.2.2.2.2.1 ey k
    · rw [if_neg z] at e; cases e
theorem share_o (O : Own ix s h P) {w w2 : Tn} {a a2 : Int} (e : shareO s w a w2 a2 = some s') : Res (cN 5 m_Store_share [.ref (ix .st), kW w, .int a, kW w2, .int a2] h) .non (ix .st) s' P := by
  rw [show cN 5 m_Store_share [.ref (ix .st), kW w, .int a, kW w2, .int a2] h = m_Store_share [.ref (ix .st), kW w, .int a, kW w2, .int a2] h from cN_val rfl]
  unfold shareO at e
  cases et : aget w s.ta with
  | none => simp only [et] at e; cases e
  | some t =>
    cases et2 : aget w2 s.ta with
    | none => simp only [et, et2] at e; cases e
    | some t2 =>
      cases ea : aget a t with
      | none => simp only [et, et2, ea] at e; cases e
      | some d =>
        obtain ⟨f, b, g⟩ := d
        cases g with
        | true => simp only [et, et2, ea] at e; cases e
        | false =>
          simp only [et, et2, ea] at e
          by_cases z : ((aget a2 t2).isNone && (decide (0 ≤ a) && (decide (a ≤ 31) && (decide (0 ≤ a2) && (decide (a2 ≤ 31) && okS (tieP s w2 t2 a2 f b)))))) = true
          · rw [if_pos z] at e
            simp only [Bool.and_eq_true, decide_eq_true_eq] at z
            obtain ⟨k, rfl⟩ := okO_some e
            exact share_i O et et2 ea (Option.isNone_iff_eq_none.mp z.1) z.2.1 z.2.2.1 z.2.2.2.1 z.2.2.2.2.1 z.2.2.2.2.2 k
          · rw [if_neg z] at e; cases e
theorem begin_o (O : Own ix s h P) {f to : Int} (e : begO s f to = some s') : Res (cN 3 m_Store_begin [.ref (ix .st), .int f, .int to] h) .non (ix .st) s' P := by
  rw [show cN 3 m_Store_begin [.ref (ix .st), .int f, .int to] h = m_Store_begin [.ref (ix .st), .int f, .int to] h from cN_val rfl]
  unfold begO at e
  by_cases z : (decide (0 ≤ f) && (decide (f < s.size) && (decide (0 ≤ to) && (decide (to < s.size) && (wsB s && (isTen (whD s f) && ((aget f s.pi).isNone && ((aget f s.mo).isNone && frB s to)))))))) = true
  · rw [if_pos z] at e
    simp only [Bool.and_eq_true, decide_eq_true_eq] at z
    obtain ⟨z0, z1, y0, y1, W, it, ip, im, ft⟩ := z
    cases el : aget f s.sp with
    | none => simp only [el] at e; cases e
    | some l =>
      simp only [el] at e
      by_cases q : (!l.isEmpty && (isrt leS2 (l.map (·.1))).all (plainE s.ta)) = true
      · rw [if_pos q] at e
        rw [Bool.and_eq_true, List.all_eq_true] at q
        obtain ⟨k, rfl⟩ := okO_some e
        obtain ⟨r, hr⟩ : ∃ r, whD s f = .tup (.st .tenants :: r) := by
          generalize whD s f = d at it
          unfold isTen at it
          split at it
          · exact ⟨_, rfl⟩
          · cases it
        refine begin_i O W z0 z1 y0 y1 hr el (fun x => by subst x; exact absurd q.1 (by decide)) (Option.isNone_iff_eq_none.mp ip) (Option.isNone_iff_eq_none.mp im) ft (fun p hp => ?_) k
        have := q.2 p hp
        unfold plainE at this
        cases et : aget p.1 s.ta with
        | none => simp only [et] at this; cases this
        | some t =>
          cases ea : aget p.2 t with
          | none => simp only [et, ea] at this; cases this
          | some d =>
            obtain ⟨g, b, c⟩ := d
            cases c with
            | true => simp only [et, ea] at this; cases this
            | false => exact ⟨t, g, b, rfl, ea⟩
      · rw [if_neg q] at e; cases e
  · rw [if_neg z] at e; cases e
theorem step_o (O : Own ix s h P) {f : Int} {d : Dd} (e : stepO s f = some (s', d)) : Res (cN 2 m_Store_step [.ref (ix .st), .int f] h) (ddM d) (ix .st) s' P := by
  rw [show cN 2 m_Store_step [.ref (ix .st), .int f] h = m_Store_step [.ref (ix .st), .int f] h from cN_val rfl]
  unfold stepO at e
  cases em : aget f s.mo with
  | none => simp only [em] at e; cases e
  | some m =>
    simp only [em] at e
    by_cases hc : m.cop = false
    · rw [if_pos hc] at e
      obtain ⟨e2, rfl⟩ := withD_some e
      obtain ⟨k, rfl⟩ := okO_some e2
      exact step_copy O em hc k
    · rw [if_neg hc] at e
      have hc : m.cop = true := by simpa using hc
      cases el : aget f s.sp with
      | none => simp only [el] at e; cases e
      | some l =>
        simp only [el] at e
        cases er : restP m (isrt leS2 (l.map (·.1))) with
        | cons p rr =>
          simp only [er] at e
          obtain ⟨e2, rfl⟩ := withD_some e
          obtain ⟨k, rfl⟩ := okO_some e2
          exact step_right O em hc el er k
        | nil =>
          simp only [er] at e
          cases ew : aget f s.wo with
          | none => simp only [ew] at e; cases e
          | some x =>
            cases et : aget m.to s.sp with
            | some _ => simp only [ew, et] at e; cases e
            | none =>
              cases eg : finG m.to (l.map (·.1)) s.ta with
              | none => simp only [ew, et, eg] at e; cases e
              | some ta2 =>
                simp only [ew, et, eg] at e
                obtain ⟨e2, rfl⟩ := withD_some e
                obtain ⟨k, rfl⟩ := okO_some e2
                exact step_done O em hc ew el er et eg k
end
noncomputable def giveL : Nat → Nat → Sto → Option Sto
  | 0, _, s => some s
  | n + 1, i, s => match giveO s 1 (20 + (i : Int)) (i : Int) true with
    | none => none
    | some s1 => giveL n (i + 1) s1
noncomputable def bitW (b : Nat) : Tn := if b = 0 then 1 else 0
noncomputable def sharL : List Nat → Nat → Sto → List Spt → Option (Sto × List Spt)
  | [], _, s, l => some (s, l)
  | b :: r, i, s, l => match shareO s 0 0 (bitW b) (8 + (i : Int)) with
    | none => none
    | some s1 => sharL r (i + 1) s1 (l ++ [(bitW b, 8 + (i : Int))])
noncomputable def startP : Option Sto := match comeO (newP 16) 0 with
  | none => none
  | some s => comeO s 1
noncomputable def madeP (d : Nat) (bs : List Nat) : Option (Sto × List Spt) := match startP with
  | none => none
  | some s0 => match giveL d 0 s0 with
    | none => none
    | some s1 => match giveO s1 0 0 7 true with
      | none => none
      | some s2 => sharL bs 0 s2 [(0, 0)]
noncomputable def tabO (s : Sto) (w : Tn) (a : Int) : Option Dd := match aget w s.ta with
  | none => none
  | some t => aget a (tabP s w t)
noncomputable def entsP (s : Sto) : List Spt → Option (List Dd)
  | [] => some []
  | p :: r => match tabO s p.1 p.2 with
    | none => none
    | some d => match entsP s r with
      | none => none
      | some ds => some (d :: ds)
noncomputable def readO (s : Sto) (w : Tn) (a : Int) : Option Int := match aget w s.ta with
  | none => none
  | some t => match aget a t with
    | none => none
    | some e => if (decide (0 ≤ a) && decide (a ≤ 31)) = true then aget e.1 s.wo else none
noncomputable def readL (s : Sto) : List Spt → Option (List Int)
  | [] => some []
  | p :: r => match readO s p.1 p.2 with
    | none => none
    | some d => match readL s r with
      | none => none
      | some ds => some (d :: ds)
noncomputable def frmO : Dd → Option Int
  | .tup (_ :: .int f :: _) => some f
  | _ => none
noncomputable def besideP (s : Sto) (to : Int) : Option (Sto × List (Int × Int)) := match aget 1 s.ta with
  | none => none
  | some t => match aget 20 (tabP s 1 t) with
    | none => some (s, [])
    | some d => match frmO d with
      | none => none
      | some o => match ((freeP s).filter fun g => !decide (g = to)).head? with
        | none => none
        | some g => match begO s o g with
          | none => none
          | some s1 => match stepO s1 o with
            | none => none
            | some (s2, _) => some (s2, [(o, g)])
noncomputable def othersP (s : Sto) (f to : Int) : List Dd := ((rngI 16).filter fun g => !(decide (f = g) || decide (to = g))).map (whD s)
noncomputable def tenD (sp : List Spt) : Dd := .tup [.st .tenants, .int 7, .tup (sp.map spD)]
abbrev MvT := Int × (Int × Bool × Int)
noncomputable def mvtD (p : MvT) : Dd := .tup [.int p.1, .int p.2.1, .bl p.2.2.1, .int p.2.2.2]
noncomputable def movesL (f to : Int) (rest : List (Int × Int)) (i : Nat) : List MvT := (f, to, decide (0 < i), ((i - 1 : Nat) : Int)) :: rest.map fun p => (p.1, p.2, true, 0)
noncomputable def rowD (k : Sw) (f : Int) : Dd := .tup [.st k, .int f, .st .write]
noncomputable def looksP (s : Sto) (f to : Int) (sp : List Spt) (rest : List (Int × Int)) (i : Nat) : Bool :=
  wsB s && (nodA (movesL f to rest i) && (eqvD (.li (mvsP s)) (.li ((isrt leA (movesL f to rest i)).map mvtD)) && (eqvD (whD s to) (.tup [.st .held, .int f]) && (eqvD (whD s f) (tenD sp) && (!((freeP s).any fun g => decide (g = to)) &&
    (match entsP s sp with
    | none => false
    | some es => eqvD (.li es) (.li (List.replicate (i - 1) (rowD .small to) ++ List.replicate (sp.length - (i - 1)) (rowD .moving f)))) &&
    (match readL s sp with
    | none => false
    | some xs => eqvD (.li (xs.map .int)) (.li (List.replicate sp.length (.int 7)))))))))
noncomputable def dueP (sp : List Spt) : List Dd := .tup [.st .copied] :: (sp.map fun p => Dd.tup [.st .right, .st (.w p.1), .int p.2]) ++ [.tup [.st .done]]
noncomputable def goP (f to : Int) (sp : List Spt) (rest : List (Int × Int)) : List Dd → Nat → Sto → Option Sto
  | [], _, s => some s
  | d :: r, i, s => if (decide (s.size = 16) && looksP s f to sp rest i) = true then match stepO s f with
      | none => none
      | some (s1, x) => if eqvD x d = true then goP f to sp rest r (i + 1) s1 else none
    else none
noncomputable def endP (s : Sto) (f to : Int) (sp : List Spt) (rest : List (Int × Int)) : Bool :=
  wsB s && (eqvD (.li (mvsP s)) (.li (rest.map fun p => mvtD (p.1, p.2, true, 0))) && (eqvD (whD s f) frD && (eqvD (whD s to) (tenD sp) &&
    (match entsP s sp with
    | none => false
    | some es => eqvD (.li es) (.li (List.replicate sp.length (rowD .small to)))))))
noncomputable def rightP (d : Nat) (bs : List Nat) (t : Nat) : Bool := match madeP d bs with
  | none => false
  | some (s, sp0) => match tabO s 0 0 with
    | none => false
    | some dd => match frmO dd with
      | none => false
      | some f => match (freeP s)[t]? with
        | none => false
        | some to => match besideP s to with
          | none => false
          | some (s1, rest) => match begO s1 f to with
            | none => false
            | some s2 => match goP f to (isrt leS2 sp0) rest (dueP (isrt leS2 sp0)) 0 s2 with
              | none => false
              | some s3 => decide (s.size = 16) && (decide (s1.size = 16) && (decide (s3.size = 16) && (decide (0 ≤ f) && (decide (f < 16) && (decide (0 ≤ to) && (decide (to < 16) && (decide (rest.length ≤ 1) && (wsB s && (wsB s1 && (endP s3 f to (isrt leS2 sp0) rest && eqvD (.li (othersP s3 f to)) (.li (othersP s1 f to))))))))))))
noncomputable def lenP (d : Nat) (bs : List Nat) : Nat := match madeP d bs with
  | none => 0
  | some (s, _) => (freeP s).length
end MP
namespace MP
open PySem PySem.Spec PyProof.Rows L2
theorem ixA_lst {h : MH} {n : Nat} {l : List MV} {k : Int} {v : MV} (e : h[n]? = some (.lst l)) (ev : atI l k = some v) : mIxA (.ref n) (.int k) h = .ok v h := by
  have e0 : isDk (.ref n) h = false := by unfold isDk asD; simp only [e]; rfl
  unfold mIxA mIx asS
  rw [e0]
  simp only [Bool.false_eq_true, if_false, e, ev]
theorem setC_lst {rv ro ri : EM} {σ : Lo} {h : MH} {n j : Nat} {l : List MV} {k : Int} {v : MV} (ev : rv σ h = .ok v h) (eo : ro σ h = .ok (.ref n) h) (ei : ri σ h = .ok (.int k) h) (e : h[n]? = some (.lst l)) (ej : ixN l.length k = some j) : sSetC rv ro ri σ h = .nx σ (h.set n (.lst (l.set j v))) := by
  have e0 : isDQ (.ref n) h = false := by unfold isDQ; simp only [e]
  unfold sSetC
  rw [ev, bindS_ok, eo, bindS_ok, ei, bindS_ok, e0]
  simp only [Bool.false_eq_true, if_false, sSetIx, bindS_ok, e, ej, setH]
noncomputable def poolO (p : Int × Int) : MO := .lst [.int p.1, .int p.2]
noncomputable def drw (p : Int × Int) (m : Int) : Int × (Int × Int) :=
  if 0 < p.1 then (p.1 % m, (p.1 / m, p.2)) else ((p.2 * 69621 + 7) % 2147483647 * ((p.2 * 69621 + 7) % 2147483647) % 2147483629 / 32 % m, (p.1, (p.2 * 69621 + 7) % 2147483647))
theorem drw_lt (p : Int × Int) {m : Int} (hm : 0 < m) : 0 ≤ (drw p m).1 ∧ (drw p m).1 < m := by
  unfold drw
  by_cases z : 0 < p.1
  · rw [if_pos z]; exact ⟨Int.emod_nonneg _ (by omega), Int.emod_lt_of_pos _ hm⟩
  · rw [if_neg z]; exact ⟨Int.emod_nonneg _ (by omega), Int.emod_lt_of_pos _ hm⟩
theorem draw_i {h : MH} {n : Nat} {p : Int × Int} {m : Int} (e : h[n]? = some (poolO p)) (hm : 0 < m) (hm2 : m < 1073741824) : cF 2 m_law_draw [.ref n, .int m] h = .ok (.int (drw p m).1) (h.set n (poolO (drw p m).2)) := by
  suffices T : m_law_draw [.ref n, .int m] h = .ok (.int (drw p m).1) (h.set n (poolO (drw p m).2)) by
    unfold cF; rw [if_pos (by rfl), T, bindR_ok]; unfold gcF; rw [if_pos (by rw [List.length_set]; exact Nat.le_refl _)]
  obtain ⟨a, b⟩ := p
  have i0 : mIxA (.ref n) (.int 0) h = .ok (.int a) h := ixA_lst e rfl
  have i1 : mIxA (.ref n) (.int 1) h = .ok (.int b) h := ixA_lst e rfl
  refine fnM_rt ?_
  show mb_law_draw [some (.ref n), some (.int m), none] h = _
  by_cases z : 0 < a
  · have s1 : sSetC (m2 mDivI (m2 mIxA (mVar 0) (mC (.int 0))) (mVar 1)) (mVar 0) (mC (.int 0)) [some (.ref n), some (.int m), some (.int (a % m))] h = .nx [some (.ref n), some (.int m), some (.int (a % m))] (h.set n (.lst [.int (a / m), .int b])) :=
      setC_lst (v := .int (a / m)) (k := 0) (by simp only [sSeq, sIf, sExpr, sRet, sSet, sNil, sPass, mNot, mAnd, mOr, mTru, mN, mCons, mNil, m1, m2, m3c, mVar, mC, mB, isB, isTru, List.getElem?_cons_zero, List.getElem?_cons_succ, List.set_cons_zero, List.set_cons_succ, bindR_ok, bindS_ok, Option.isSome_some, Option.isSome_none, Bool.and_self, Bool.not_true, Bool.not_false, Bool.false_eq_true, if_true, if_false, mInC, mNotInC, List.cons_append, List.nil_append, i0, div_int a m h hm hm2]) rfl rfl e rfl
    unfold mb_law_draw drw
    rw [if_pos z]
    simp only [sSeq, sIf, sExpr, sRet, sSet, sNil, sPass, mNot, mAnd, mOr, mTru, mN, mCons, mNil, m1, m2, m3c, mVar, mC, mB, isB, isTru, List.getElem?_cons_zero, List.getElem?_cons_succ, List.set_cons_zero, List.set_cons_succ, bindR_ok, bindS_ok, Option.isSome_some, Option.isSome_none, Bool.and_self, Bool.not_true, Bool.not_false, Bool.false_eq_true, if_true, if_false, mInC, mNotInC, List.cons_append, List.nil_append, i0, gt_int, decide_eq_true z, mod_int a m h hm, s1]
    rfl
  · generalize hb' : (b * 69621 + 7) % 2147483647 = b'
    have q1 : 0 ≤ b' := by rw [← hb']; exact Int.emod_nonneg _ (by decide)
    have q2 : b' < 2147483647 := by rw [← hb']; exact Int.emod_lt_of_pos _ (by decide)
    have e' : (h.set n (.lst [.int a, .int b']))[n]? = some (.lst [.int a, .int b']) := by
      obtain ⟨hn, _⟩ := List.getElem?_eq_some_iff.mp e
      rw [List.getElem?_set_self hn]
    generalize hh' : h.set n (.lst [.int a, .int b']) = h' at e'
    have i1' : mIxA (.ref n) (.int 1) h' = .ok (.int b') h' := ixA_lst e' rfl
    have s1 : sSetC (m2 mModI (m2 (mAdd finV) (m2 (mMul finV) (m2 mIxA (mVar 0) (mC (.int 1))) (mC (.int 69621))) (mC (.int 7))) (mC (.int 2147483647))) (mVar 0) (mC (.int 1)) [some (.ref n), some (.int m), none] h = .nx [some (.ref n), some (.int m), none] h' := by
      rw [← hh']
      refine setC_lst (v := .int b') (k := 1) (l := [.int a, .int b]) ?_ rfl rfl e rfl
      have mm := mul_int b 69621 h finV (.inr ⟨by decide, by decide⟩)
      have md := mod_int (b * 69621 + 7) 2147483647 h (by decide)
      simp only [sSeq, sIf, sExpr, sRet, sSet, sNil, sPass, mNot, mAnd, mOr, mTru, mN, mCons, mNil, m1, m2, m3c, mVar, mC, mB, isB, isTru, List.getElem?_cons_zero, List.getElem?_cons_succ, List.set_cons_zero, List.set_cons_succ, bindR_ok, bindS_ok, Option.isSome_some, Option.isSome_none, Bool.and_self, Bool.not_true, Bool.not_false, Bool.false_eq_true, if_true, if_false, mInC, mNotInC, List.cons_append, List.nil_append, i1, mm, md, hb', add_int]
    have mm := mul_int b' b' h' finV (.inl ⟨by omega, by omega⟩)
    have md := mod_int (b' * b') 2147483629 h' (by decide)
    have dv := div_int (b' * b' % 2147483629) 32 h' (by decide) (by decide)
    have mk := mod_int (b' * b' % 2147483629 / 32) m h' hm
    unfold mb_law_draw drw
    rw [if_neg z]
    simp only [hb']
    simp only [sSeq, sIf, sExpr, sRet, sSet, sNil, sPass, mNot, mAnd, mOr, mTru, mN, mCons, mNil, m1, m2, m3c, mVar, mC, mB, isB, isTru, List.getElem?_cons_zero, List.getElem?_cons_succ, List.set_cons_zero, List.set_cons_succ, bindR_ok, bindS_ok, Option.isSome_some, Option.isSome_none, Bool.and_self, Bool.not_true, Bool.not_false, Bool.false_eq_true, if_true, if_false, mInC, mNotInC, List.cons_append, List.nil_append, i0, gt_int, decide_eq_false z, s1, i1', mm, md, dv, mk]
    rw [← hh']
    rfl
section
variable {ix : Ro → Nat} {s s' : Sto} {h : MH} {P P' : List (Nat × MO)}
theorem Own.sub (O : Own ix s h P) (q : ∀ p ∈ P', p ∈ P) : Own ix s h P' := ⟨O.E, fun p m => O.fr p (q p m), fun p m => O.un p (q p m)⟩
theorem Own.cell (O : Own ix s h P) {n : Nat} {o : MO} (m : (n, o) ∈ P) (o' : MO) : Enc ix s (h.set n o') :=
  ⟨fun r x c => by rw [List.getElem?_set_ne (Ne.symm (O.un _ m r x c))]; exact O.E.gt r x c, O.E.inj, O.E.ok⟩
theorem Own.forgA {n1 n2 : Nat} {o1 o2 : MO} (O : Own ix s h [(n1, o1), (n2, o2)]) (ne : n1 ≠ n2) (o' : MO) : Own ix s (h.set n1 o') [(n1, o'), (n2, o2)] := by
  have m1 : (n1, o1) ∈ [(n1, o1), (n2, o2)] := List.mem_cons_self
  have m2 : (n2, o2) ∈ [(n1, o1), (n2, o2)] := List.mem_cons_of_mem _ List.mem_cons_self
  refine ⟨O.cell m1 o', fun p m => ?_, fun p m r o c => ?_⟩
  · rcases List.mem_cons.mp m with e | m
    · subst e; exact List.getElem?_set_self (O.lt m1)
    · rcases List.mem_cons.mp m with e | m
      · subst e; show (h.set n1 o')[n2]? = some o2; rw [List.getElem?_set_ne ne]; exact O.fr _ m2
      · cases m
  · rcases List.mem_cons.mp m with e | m
    · subst e; exact O.un _ m1 r o c
    · rcases List.mem_cons.mp m with e | m
      · subst e; exact O.un _ m2 r o c
      · cases m
theorem Own.swap {p q : Nat × MO} (O : Own ix s h [p, q]) : Own ix s h [q, p] := O.sub fun x m => by
  rcases List.mem_cons.mp m with e | m
  · rw [e]; exact List.mem_cons_of_mem _ List.mem_cons_self
  · rcases List.mem_cons.mp m with e | m
    · rw [e]; exact List.mem_cons_self
    · cases m
theorem Own.forgB {n1 n2 : Nat} {o1 o2 : MO} (O : Own ix s h [(n1, o1), (n2, o2)]) (ne : n1 ≠ n2) (o' : MO) : Own ix s (h.set n2 o') [(n1, o1), (n2, o')] := (O.swap.forgA (Ne.symm ne) o').swap
theorem Own.forg1 {n1 : Nat} {o1 : MO} (O : Own ix s h [(n1, o1)]) (o' : MO) : Own ix s (h.set n1 o') [(n1, o')] := by
  have m1 : (n1, o1) ∈ [(n1, o1)] := List.mem_cons_self
  refine ⟨O.cell m1 o', fun p m => ?_, fun p m r o c => ?_⟩
  · rcases List.mem_cons.mp m with e | m
    · subst e; exact List.getElem?_set_self (O.lt m1)
    · cases m
  · rcases List.mem_cons.mp m with e | m
    · subst e; exact O.un _ m1 r o c
    · cases m
theorem Own.newcell {n1 : Nat} {o1 : MO} (O : Own ix s h [(n1, o1)]) (o : MO) : Own ix s (h ++ [o]) [(n1, o1), (h.length, o)] := by
  have m1 : (n1, o1) ∈ [(n1, o1)] := List.mem_cons_self
  refine ⟨(O.grow [o]).E, fun p m => ?_, fun p m r x c => ?_⟩
  · rcases List.mem_cons.mp m with e | m
    · rw [e]; exact (O.grow [o]).fr _ m1
    · rcases List.mem_cons.mp m with e | m
      · rw [e]; exact get_new h o
      · cases m
  · rcases List.mem_cons.mp m with e | m
    · rw [e]; exact O.un _ m1 r x c
    · rcases List.mem_cons.mp m with e | m
      · rw [e]; have := O.E.lt c; exact Nat.ne_of_lt this
      · cases m
end
theorem wa : MV.str (Str.ofString "a") = kW 0 := by
  have : Str.ofString "a" = (Sw.w 0).str := by decide +kernel
  rw [this]; rfl
theorem wb : MV.str (Str.ofString "b") = kW 1 := by
  have : Str.ofString "b" = (Sw.w 1).str := by decide +kernel
  rw [this]; rfl
/-- numbers of a range, from one on -/
noncomputable def rgF (i n : Nat) : List MV := (List.range' i n).map fun k : Nat => MV.int (k : Int)
theorem rg_F (n : Nat) : rgM 0 1 n = rgF 0 n := by
  unfold rgM rgF
  rw [List.range_eq_range']
  exact List.map_congr_left fun i _ => by simp
section
variable {P : List (Nat × MO)}
theorem give_go (np q : Nat) : ∀ (n i : Nat) (s s' : Sto) (h : MH) (ix : Ro → Nat) (z : Option MV), Own ix s h P → ix .st = q → giveL n i s = some s' →
    ∃ ix' h' y, forGo (fun _ => true) (gmName 2) lb_law_made_1 (rgF i n) [some (.ref np), some (.ref q), z, none, none] h = .nx [some (.ref np), some (.ref q), y, none, none] h' ∧ Own ix' s' h' P ∧ ix' .st = q
  | 0, i, s, s', h, ix, z, O, hq, e => by
    cases e
    exact ⟨ix, h, z, rfl, O, hq⟩
  | n + 1, i, s, s', h, ix, z, O, hq, e => by
    unfold giveL at e
    cases eg : giveO s 1 (20 + (i : Int)) (i : Int) true with
    | none => simp only [eg] at e; cases e
    | some s1 =>
      simp only [eg] at e
      subst hq
      obtain ⟨ix1, h1, e1, O1, q1⟩ := give_o O eg
      have e1' : cN 5 m_Store_give [.ref (ix .st), kW 1, .int (20 + (i : Int)), .int (i : Int), .str (Str.ofString "write")] h = .ok .non h1 := e1
      have b : lb_law_made_1 [some (.ref np), some (.ref (ix .st)), some (.int (i : Int)), none, none] h = .nx [some (.ref np), some (.ref (ix .st)), some (.int (i : Int)), none, none] h1 := by
        unfold lb_law_made_1
        simp only [sSeq, sIf, sExpr, sRet, sSet, sNil, sPass, mNot, mAnd, mOr, mTru, mN, mCons, mNil, m1, m2, m3c, mVar, mC, mB, isB, isTru, List.getElem?_cons_zero, List.getElem?_cons_succ, List.set_cons_zero, List.set_cons_succ, bindR_ok, bindS_ok, Option.isSome_some, Option.isSome_none, Bool.and_self, Bool.not_true, Bool.not_false, Bool.false_eq_true, if_true, if_false, mInC, mNotInC, List.cons_append, List.nil_append, wb, methS O.E (mn := Str.ofString "give") rfl, add_int, e1']
      obtain ⟨ix', h', y, go, O', q'⟩ := give_go np (ix .st) n (i + 1) s1 s' h1 ix1 (some (.int (i : Int))) O1 q1 e
      refine ⟨ix', h', y, ?_, O', q'⟩
      show forGo _ _ _ (MV.int (i : Int) :: rgF (i + 1) n) _ _ = _
      rw [forGo, if_pos rfl]
      simp only [gmName, List.set_cons_succ, List.set_cons_zero, b]
      exact go
noncomputable def bitsP : Nat → Int × Int → List Nat × (Int × Int)
  | 0, p => ([], p)
  | n + 1, p => ((drw p 2).1.toNat :: (bitsP n (drw p 2).2).1, (bitsP n (drw p 2).2).2)
theorem bits_ok : ∀ (n : Nat) (p : Int × Int), (bitsP n p).1.length = n ∧ ∀ b ∈ (bitsP n p).1, b < 2
  | 0, p => ⟨rfl, fun b m => by cases m⟩
  | n + 1, p => by
    obtain ⟨h1, h2⟩ := bits_ok n (drw p 2).2
    obtain ⟨d1, d2⟩ := drw_lt p (m := 2) (by decide)
    refine ⟨by unfold bitsP; rw [List.length_cons, h1], fun b m => ?_⟩
    unfold bitsP at m
    rcases List.mem_cons.mp m with e | m
    · rw [e]; omega
    · exact h2 b m
theorem bit_ix {d : Int} (d0 : 0 ≤ d) (d1 : d < 2) (h : MH) : mIxA (.lv [kW 1, kW 0]) (.int d) h = .ok (kW (bitW d.toNat)) h := by
  have : d = 0 ∨ d = 1 := by omega
  rcases this with e | e <;> subst e <;> rfl
theorem append_i {h : MH} {n : Nat} {l : List MV} {ro ra : EM} {σ : Lo} {v : MV} (e : h[n]? = some (.lst l)) (e1 : ro σ h = .ok (.ref n) h) (e2 : ra σ h = .ok v h) (z : l.length < SZ) : mMeth mAppend ro (mCons ra mNil) σ h = .ok .non (h.set n (.lst (l ++ [v]))) := by
  have a : asL (.ref n) h = some l := by unfold asL; simp only [e]
  unfold mMeth
  rw [e1, bindR_ok, a]
  simp only [mCons, e2, bindR_ok, mNil]
  unfold mAppend
  simp only [e, if_pos z, setH]
theorem shar_go (np nl q : Nat) (nn : np ≠ nl) : ∀ (n i : Nat) (s s' : Sto) (l l' : List Spt) (h : MH) (ix : Ro → Nat) (p : Int × Int) (z z4 : Option MV), Own ix s h [(np, poolO p), (nl, .lst (l.map kS))] → ix .st = q → l.length + n < 1000 → sharL (bitsP n p).1 i s l = some (s', l') →
    ∃ ix' h' y y4, forGo (fun _ => true) (gmName 2) lb_law_made_0 (rgF i n) [some (.ref np), some (.ref q), z, some (.ref nl), z4] h = .nx [some (.ref np), some (.ref q), y, some (.ref nl), y4] h' ∧ Own ix' s' h' [(np, poolO (bitsP n p).2), (nl, .lst (l'.map kS))] ∧ ix' .st = q
  | 0, i, s, s', l, l', h, ix, p, z, z4, O, hq, ln, e => by
    cases e
    exact ⟨ix, h, z, z4, rfl, O, hq⟩
  | n + 1, i, s, s', l, l', h, ix, p, z, z4, O, hq, ln, e => by
    subst hq
    obtain ⟨d0, d1⟩ := drw_lt p (m := 2) (by decide)
    have dr := draw_i (n := np) (m := 2) (O.fr _ List.mem_cons_self) (by decide) (by decide)
    have O1 := O.forgA nn (poolO (drw p 2).2)
    unfold bitsP sharL at e
    unfold bitsP
    generalize hd : (drw p 2).1 = d at dr d0 d1 e ⊢
    generalize (drw p 2).2 = p1 at dr O1 e ⊢
    generalize h.set np (poolO p1) = h1 at dr O1
    cases eg : shareO s 0 0 (bitW d.toNat) (8 + (i : Int)) with
    | none => simp only [eg] at e; cases e
    | some s1 =>
      simp only [eg] at e
      obtain ⟨ix2, h2, e2, O2, q2⟩ := share_o O1 eg
      have O3 := O2.forgB nn (.lst ((l ++ [(bitW d.toNat, 8 + (i : Int))]).map kS))
      have ln2 : (l.map kS).length < SZ := by rw [List.length_map]; exact Nat.lt_trans (show _ < 1000 by omega) (by decide)
      have gl : h2[nl]? = some (.lst (l.map kS)) := O2.fr (nl, _) (List.mem_cons_of_mem _ List.mem_cons_self)
      have b : lb_law_made_0 [some (.ref np), some (.ref (ix .st)), some (.int (i : Int)), some (.ref nl), z4] h =
          .nx [some (.ref np), some (.ref (ix .st)), some (.int (i : Int)), some (.ref nl), some (kS (bitW d.toNat, 8 + (i : Int)))] (h2.set nl (.lst ((l ++ [(bitW d.toNat, 8 + (i : Int))]).map kS))) := by
        have i0 : ∀ g : MH, mIxA (.tup [kW (bitW d.toNat), .int (8 + (i : Int))]) (.int 0) g = .ok (kW (bitW d.toNat)) g := fun g => ix_tup0 _ _ g
        have i1 : ∀ g : MH, mIxA (.tup [kW (bitW d.toNat), .int (8 + (i : Int))]) (.int 1) g = .ok (.int (8 + (i : Int))) g := fun g => ix_tup1 _ _ _ g
        have ap := append_i (ro := mVar 3) (ra := mVar 4) (σ := [some (.ref np), some (.ref (ix .st)), some (.int (i : Int)), some (.ref nl), some (.tup [kW (bitW d.toNat), .int (8 + (i : Int))])]) gl rfl rfl ln2
        unfold lb_law_made_0
        simp only [sSeq, sIf, sExpr, sRet, sSet, sNil, sPass, mNot, mAnd, mOr, mTru, mN, mCons, mNil, m1, m2, m3c, mVar, mC, mB, isB, isTru, List.getElem?_cons_zero, List.getElem?_cons_succ, List.set_cons_zero, List.set_cons_succ, bindR_ok, bindS_ok, Option.isSome_some, Option.isSome_none, Bool.and_self, Bool.not_true, Bool.not_false, Bool.false_eq_true, if_true, if_false, mInC, mNotInC, List.cons_append, List.nil_append, wa, wb, mkLv, List.length_cons, List.length_nil, show (0 + 1 + 1 ≤ SZ) = True from eq_true (by decide), dr, bit_ix d0 d1, add_int, mkTup, methS O1.E (mn := Str.ofString "share") rfl, i0, i1, e2, ap]
        rw [List.map_append]
        rfl
      obtain ⟨ix', h', y, y4, go, O', q'⟩ := shar_go np nl (ix .st) nn n (i + 1) s1 s' (l ++ [(bitW d.toNat, 8 + (i : Int))]) l' _ ix2 p1 (some (.int (i : Int))) (some (kS (bitW d.toNat, 8 + (i : Int)))) O3 q2 (by rw [List.length_append]; simp; omega) e
      refine ⟨ix', h', y, y4, ?_, O', q'⟩
      show forGo _ _ _ (MV.int (i : Int) :: rgF (i + 1) n) _ _ = _
      rw [forGo, if_pos rfl]
      simp only [gmName, List.set_cons_succ, List.set_cons_zero, b]
      exact go
end
theorem srt_lst2 {fin : List MV → MH → R MV} {v : MV} {h : MH} {l : List Spt} (e : asL v h = some (l.map kS)) (ln : l.length ≤ 1000) : mSrt fin [v] h = fin ((isrt leS2 l).map kS) h := by
  have c : collM v h = some (l.map kS) := by unfold collM; rw [e]
  refine srt_of (d := fun p => ddP (spD p)) c (fun p _ => toD_dd h 12 (spD p) (by show 1 < 12; decide)) ?_ (fun a _ b _ => leS2_M a b _ _) leS2_tr leS2_to (fun a _ b _ => leS2_an a b)
  refine sok_tup (fun a _ b _ => rfl) (fun a _ => rfl) (fun a _ => ?_) (Nat.le_trans ln (by decide))
  have := dep_dd (spD a)
  have := dep_sp a
  omega
end MP
namespace MP
open PySem PySem.Spec PyProof.Rows L2
section
variable {ix : Ro → Nat} {s s' : Sto} {h : MH} {P : List (Nat × MO)} {q : Nat}
theorem methQ (E : Enc ix s h) (hq : ix .st = q) {mn : Str} {rs : AM} {fn : MV → List MV → MH → R MV} {σ : Lo} {i : Nat} (n : ((stF ix s.size).lookup mn).isNone = true) (hs : σ[i]? = some (some (.ref q))) :
    mMethC 0 mn (mVar i) rs fn σ h = bindR (rs σ h) fun as h2 => fn (.ref q) as h2 := by
  subst hq; exact methS E n hs
noncomputable def mdP (p : Int × Int) : Nat := (drw p 4).1.toNat
noncomputable def mbP (p : Int × Int) : List Nat := (bitsP (drw (drw p 4).2 4).1.toNat (drw (drw p 4).2 4).2).1
noncomputable def mpP (p : Int × Int) : Int × Int := (bitsP (drw (drw p 4).2 4).1.toNat (drw (drw p 4).2 4).2).2
theorem rg1 {d : Int} (d0 : 0 ≤ d) (d1 : d < 1000) (h : MH) : itR1 [.int d] h = .ok (rgF 0 d.toNat, fun _ => true) h := by
  have b : inB d = true := inB_of (by omega) (by omega)
  show (if inB d = true then R.ok (rgM 0 1 d.toNat, fun _ => true) h else R.bad) = _
  rw [if_pos b, rg_F]
theorem shar_len : ∀ (bs : List Nat) (i : Nat) (s s' : Sto) (l l' : List Spt), sharL bs i s l = some (s', l') → l'.length = l.length + bs.length
  | [], i, s, s', l, l', e => by cases e; rfl
  | b :: r, i, s, s', l, l', e => by
    unfold sharL at e
    cases eg : shareO s 0 0 (bitW b) (8 + (i : Int)) with
    | none => simp only [eg] at e; cases e
    | some s1 =>
      simp only [eg] at e
      have := shar_len r (i + 1) s1 s' _ l' e
      rw [this, List.length_append, List.length_cons]; simp; omega
theorem made_i {np : Nat} {p : Int × Int} (e : h[np]? = some (poolO p)) {sp0 : List Spt} (em : madeP (mdP p) (mbP p) = some (s', sp0)) :
    ∃ ix h' nl, np ≠ nl ∧ cN 1 m_law_made [.ref np] h = .ok (.tup [.ref (ix .st), .lv ((isrt leS2 sp0).map kS)]) h' ∧ Own ix s' h' [(np, poolO (mpP p)), (nl, .lst (sp0.map kS))] ∧ sp0.length ≤ 4 := by
  have lnp : np < h.length := (List.getElem?_eq_some_iff.mp e).1
  have O0 : Own (newX h.length) (newP 16) (h ++ newH h.length 16) [(np, poolO p)] := new_own h _ 16 (by decide) (by decide) fun x m => by
    rcases List.mem_cons.mp m with c | m
    · rw [c]; exact e
    · cases m
  have x1 : sSet 1 (mN (mMake 0 2 m_Store___init__) (mCons (mC (.int 16)) mNil)) [some (.ref np), none, none, none, none] h = .nx [some (.ref np), some (.ref (newX h.length .st)), none, none, none] (h ++ newH h.length 16) := by
    have mk := make_i 16 (by decide) h
    simp only [sSeq, sIf, sExpr, sRet, sSet, sNil, sPass, mNot, mAnd, mOr, mTru, mN, mCons, mNil, m1, m2, m3c, mVar, mC, mB, isB, isTru, List.getElem?_cons_zero, List.getElem?_cons_succ, List.set_cons_zero, List.set_cons_succ, bindR_ok, bindS_ok, Option.isSome_some, Option.isSome_none, Bool.and_self, Bool.not_true, Bool.not_false, Bool.false_eq_true, if_true, if_false, mInC, mNotInC, List.cons_append, List.nil_append, mk]
    rfl
  generalize newX h.length = ix0 at O0 x1
  generalize h ++ newH h.length 16 = h1 at O0 x1
  unfold madeP startP at em
  cases e2 : comeO (newP 16) 0 with
  | none => simp only [e2] at em; cases em
  | some s2 =>
    simp only [e2] at em
    obtain ⟨ix2, h2, c2, O2, q2⟩ := come_o O0 e2
    have x2 : sExpr (mMethC 0 (Str.ofString "come") (mVar 1) (mCons (mC (.str (Str.ofString "a"))) mNil) fun v as h => cN 2 m_Store_come (v :: (as ++ [])) h) [some (.ref np), some (.ref (ix0 .st)), none, none, none] h1 = .nx [some (.ref np), some (.ref (ix0 .st)), none, none, none] h2 := by
      simp only [sSeq, sIf, sExpr, sRet, sSet, sNil, sPass, mNot, mAnd, mOr, mTru, mN, mCons, mNil, m1, m2, m3c, mVar, mC, mB, isB, isTru, List.getElem?_cons_zero, List.getElem?_cons_succ, List.set_cons_zero, List.set_cons_succ, bindR_ok, bindS_ok, Option.isSome_some, Option.isSome_none, Bool.and_self, Bool.not_true, Bool.not_false, Bool.false_eq_true, if_true, if_false, mInC, mNotInC, List.cons_append, List.nil_append, methS O0.E (mn := Str.ofString "come") rfl, wa, c2]
    cases e3 : comeO s2 1 with
    | none => simp only [e3] at em; cases em
    | some s3 =>
      simp only [e3] at em
      obtain ⟨ix3, h3, c3, O3, q3⟩ := come_o O2 e3
      rw [q2] at c3 q3
      have x3 : sExpr (mMethC 0 (Str.ofString "come") (mVar 1) (mCons (mC (.str (Str.ofString "b"))) mNil) fun v as h => cN 2 m_Store_come (v :: (as ++ [])) h) [some (.ref np), some (.ref (ix0 .st)), none, none, none] h2 = .nx [some (.ref np), some (.ref (ix0 .st)), none, none, none] h3 := by
        simp only [sSeq, sIf, sExpr, sRet, sSet, sNil, sPass, mNot, mAnd, mOr, mTru, mN, mCons, mNil, m1, m2, m3c, mVar, mC, mB, isB, isTru, List.getElem?_cons_zero, List.getElem?_cons_succ, List.set_cons_zero, List.set_cons_succ, bindR_ok, bindS_ok, Option.isSome_some, Option.isSome_none, Bool.and_self, Bool.not_true, Bool.not_false, Bool.false_eq_true, if_true, if_false, mInC, mNotInC, List.cons_append, List.nil_append, methQ O2.E q2 (mn := Str.ofString "come") rfl, wb, c3]
      have d4 := draw_i (n := np) (m := 4) (O3.fr _ List.mem_cons_self) (by decide) (by decide)
      obtain ⟨d40, d41⟩ := drw_lt p (m := 4) (by decide)
      have O4 := O3.forg1 (poolO (drw p 4).2)
      cases e5 : giveL (mdP p) 0 s3 with
      | none => simp only [e5] at em; cases em
      | some s5 =>
        simp only [e5] at em
        obtain ⟨ix5, h5, y5, g5, O5, q5⟩ := give_go np (ix0 .st) (mdP p) 0 s3 s5 _ ix3 none O4 q3 e5
        have x4 : sFor (fun σ h => bindR ((mCons (mN (cF 2 m_law_draw) (mCons (mVar 0) (mCons (mC (.int 4)) mNil))) mNil) σ h) itR1) (gmName 2) lb_law_made_1 [some (.ref np), some (.ref (ix0 .st)), none, none, none] h3 = .nx [some (.ref np), some (.ref (ix0 .st)), y5, none, none] h5 := by
          have g5' : forGo (fun _ => true) (gmName 2) lb_law_made_1 (rgF 0 (drw p 4).1.toNat) [some (.ref np), some (.ref (ix0 .st)), none, none, none] (h3.set np (poolO (drw p 4).2)) = .nx [some (.ref np), some (.ref (ix0 .st)), y5, none, none] h5 := g5
          simp only [sSeq, sIf, sExpr, sRet, sSet, sNil, sPass, mNot, mAnd, mOr, mTru, mN, mCons, mNil, m1, m2, m3c, mVar, mC, mB, isB, isTru, List.getElem?_cons_zero, List.getElem?_cons_succ, List.set_cons_zero, List.set_cons_succ, bindR_ok, bindS_ok, Option.isSome_some, Option.isSome_none, Bool.and_self, Bool.not_true, Bool.not_false, Bool.false_eq_true, if_true, if_false, mInC, mNotInC, List.cons_append, List.nil_append, sFor, d4, rg1 d40 (show (drw p 4).1 < 1000 by omega), g5']
        cases e6 : giveO s5 0 0 7 true with
        | none => simp only [e6] at em; cases em
        | some s6 =>
          simp only [e6] at em
          obtain ⟨ix6, h6, c6, O6, q6⟩ := give_o O5 e6
          rw [q5] at c6 q6
          have c6' : cN 5 m_Store_give [.ref (ix0 .st), kW 0, .int 0, .int 7, .str (Str.ofString "write")] h5 = .ok .non h6 := c6
          have x5 : sExpr (mMethC 0 (Str.ofString "give") (mVar 1) (mCons (mC (.str (Str.ofString "a"))) (mCons (mC (.int 0)) (mCons (mC (.int 7)) mNil))) fun v as h => cN 5 m_Store_give (v :: (as ++ [.str (Str.ofString "write")])) h) [some (.ref np), some (.ref (ix0 .st)), y5, none, none] h5 =
              .nx [some (.ref np), some (.ref (ix0 .st)), y5, none, none] h6 := by
            simp only [sSeq, sIf, sExpr, sRet, sSet, sNil, sPass, mNot, mAnd, mOr, mTru, mN, mCons, mNil, m1, m2, m3c, mVar, mC, mB, isB, isTru, List.getElem?_cons_zero, List.getElem?_cons_succ, List.set_cons_zero, List.set_cons_succ, bindR_ok, bindS_ok, Option.isSome_some, Option.isSome_none, Bool.and_self, Bool.not_true, Bool.not_false, Bool.false_eq_true, if_true, if_false, mInC, mNotInC, List.cons_append, List.nil_append, methQ O5.E q5 (mn := Str.ofString "give") rfl, wa, c6']
          have x6 : sSet 3 (mN mkLst (mCons (mN mkTup (mCons (mC (.str (Str.ofString "a"))) (mCons (mC (.int 0)) mNil))) mNil)) [some (.ref np), some (.ref (ix0 .st)), y5, none, none] h6 = .nx [some (.ref np), some (.ref (ix0 .st)), y5, some (.ref h6.length), none] (h6 ++ [.lst [kS (0, 0)]]) := by
            simp only [sSeq, sIf, sExpr, sRet, sSet, sNil, sPass, mNot, mAnd, mOr, mTru, mN, mCons, mNil, m1, m2, m3c, mVar, mC, mB, isB, isTru, List.getElem?_cons_zero, List.getElem?_cons_succ, List.set_cons_zero, List.set_cons_succ, bindR_ok, bindS_ok, Option.isSome_some, Option.isSome_none, Bool.and_self, Bool.not_true, Bool.not_false, Bool.false_eq_true, if_true, if_false, mInC, mNotInC, List.cons_append, List.nil_append, wa, mkTup, mkLst, List.length_cons, List.length_nil, show (0 + 1 + 1 ≤ SZ) = True from eq_true (by decide), show (0 + 1 ≤ SZ) = True from eq_true (by decide)]
            rfl
          have O7 := O6.newcell (.lst (([(0, 0)] : List Spt).map kS))
          have nn : np ≠ h6.length := Nat.ne_of_lt (O6.lt List.mem_cons_self)
          generalize h6.length = nl at x6 O7 nn
          have x6' : sSet 3 (mN mkLst (mCons (mN mkTup (mCons (mC (.str (Str.ofString "a"))) (mCons (mC (.int 0)) mNil))) mNil)) [some (.ref np), some (.ref (ix0 .st)), y5, none, none] h6 = .nx [some (.ref np), some (.ref (ix0 .st)), y5, some (.ref nl), none] (h6 ++ [.lst (([(0, 0)] : List Spt).map kS)]) := x6
          generalize h6 ++ [MO.lst (([(0, 0)] : List Spt).map kS)] = h7 at x6' O7
          have d8 := draw_i (n := np) (m := 4) (O7.fr _ List.mem_cons_self) (by decide) (by decide)
          obtain ⟨d80, d81⟩ := drw_lt (drw p 4).2 (m := 4) (by decide)
          have O8 := O7.forgA nn (poolO (drw (drw p 4).2 4).2)
          have lns := shar_len _ _ _ _ _ _ em
          rw [show (mbP p).length = (drw (drw p 4).2 4).1.toNat from (bits_ok _ _).1] at lns
          have ln4 : sp0.length ≤ 4 := by
            have : ([(0, 0)] : List Spt).length = 1 := rfl
            omega
          obtain ⟨ix9, h9, y9, z9, g9, O9, q9⟩ := shar_go np nl (ix0 .st) nn (drw (drw p 4).2 4).1.toNat 0 s6 s' [(0, 0)] sp0 _ ix6 (drw (drw p 4).2 4).2 y5 none O8 q6 (by show 1 + _ < 1000; omega) em
          have x7 : sFor (fun σ h => bindR ((mCons (mN (cF 2 m_law_draw) (mCons (mVar 0) (mCons (mC (.int 4)) mNil))) mNil) σ h) itR1) (gmName 2) lb_law_made_0 [some (.ref np), some (.ref (ix0 .st)), y5, some (.ref nl), none] h7 = .nx [some (.ref np), some (.ref (ix0 .st)), y9, some (.ref nl), z9] h9 := by
            simp only [sSeq, sIf, sExpr, sRet, sSet, sNil, sPass, mNot, mAnd, mOr, mTru, mN, mCons, mNil, m1, m2, m3c, mVar, mC, mB, isB, isTru, List.getElem?_cons_zero, List.getElem?_cons_succ, List.set_cons_zero, List.set_cons_succ, bindR_ok, bindS_ok, Option.isSome_some, Option.isSome_none, Bool.and_self, Bool.not_true, Bool.not_false, Bool.false_eq_true, if_true, if_false, mInC, mNotInC, List.cons_append, List.nil_append, sFor, d8, rg1 d80 (show (drw (drw p 4).2 4).1 < 1000 by omega), g9]
          have al : asL (.ref nl) h9 = some (sp0.map kS) := by
            have := O9.fr (nl, _) (List.mem_cons_of_mem _ List.mem_cons_self)
            unfold asL; simp only [this]
          have sr := srt_lst2 (fin := finV) al (by omega)
          have x8 : sRet (mN mkTup (mCons (mVar 1) (mCons (mN (mSrt finV) (mCons (mVar 3) mNil)) mNil))) [some (.ref np), some (.ref (ix0 .st)), y9, some (.ref nl), z9] h9 = .rt (.tup [.ref (ix0 .st), .lv ((isrt leS2 sp0).map kS)]) h9 := by
            simp only [sSeq, sIf, sExpr, sRet, sSet, sNil, sPass, mNot, mAnd, mOr, mTru, mN, mCons, mNil, m1, m2, m3c, mVar, mC, mB, isB, isTru, List.getElem?_cons_zero, List.getElem?_cons_succ, List.set_cons_zero, List.set_cons_succ, bindR_ok, bindS_ok, Option.isSome_some, Option.isSome_none, Bool.and_self, Bool.not_true, Bool.not_false, Bool.false_eq_true, if_true, if_false, mInC, mNotInC, List.cons_append, List.nil_append, sr, finV, mkTup, List.length_cons, List.length_nil, show (0 + 1 + 1 ≤ SZ) = True from eq_true (by decide)]
          refine ⟨ix9, h9, nl, nn, ?_, O9, ln4⟩
          rw [q9]
          refine (cN_val rfl).trans (fnM_rt ?_)
          exact (seq_nx x1).trans ((seq_nx x2).trans ((seq_nx x3).trans ((seq_nx x4).trans ((seq_nx x5).trans ((seq_nx x6').trans ((seq_nx x7).trans x8))))))
theorem tabO_i (E : Enc ix s h) (hq : ix .st = q) {w : Tn} {a : Int} {d : Dd} (e : tabO s w a = some d) : ∃ t, cF 2 m_Store_table [.ref q, kW w] h = .ok (tabM t) h ∧ aget a t = some d := by
  subst hq
  unfold tabO at e
  cases et : aget w s.ta with
  | none => simp only [et] at e; cases e
  | some t =>
    simp only [et] at e
    exact ⟨_, tableF E et, e⟩
theorem ents_go (E : Enc ix s h) (hq : ix .st = q) (v1 : MV) : ∀ (l : List Spt) (es : List Dd), entsP s l = some es → lcGo (fun _ => true) (.tp [.nm 2, .nm 3]) mYes le_law_entries_0 (l.map kS) [some (.ref q), some v1, none, none] h = .ok (ddMs es) h
  | [], es, e => by cases e; rfl
  | p :: r, es, e => by
    unfold entsP at e
    cases ed : tabO s p.1 p.2 with
    | none => simp only [ed] at e; cases e
    | some d =>
      cases er : entsP s r with
      | none => simp only [ed, er] at e; cases e
      | some ds =>
        simp only [ed, er] at e
        cases e
        obtain ⟨t, et, ea⟩ := tabO_i E hq ed
        have b : le_law_entries_0 [some (.ref q), some v1, some (kW p.1), some (.int p.2)] h = .ok (ddM d) h := by
          unfold le_law_entries_0
          simp only [sSeq, sIf, sExpr, sRet, sSet, sNil, sPass, mNot, mAnd, mOr, mTru, mN, mCons, mNil, m1, m2, m3c, mVar, mC, mB, isB, isTru, List.getElem?_cons_zero, List.getElem?_cons_succ, List.set_cons_zero, List.set_cons_succ, bindR_ok, bindS_ok, Option.isSome_some, Option.isSome_none, Bool.and_self, Bool.not_true, Bool.not_false, Bool.false_eq_true, if_true, if_false, mInC, mNotInC, List.cons_append, List.nil_append, methQ E hq (mn := Str.ofString "table") rfl, et, ix_tabM ea]
        have as : asP (.tp [.nm 2, .nm 3]) (kS p) [some (.ref q), some v1, none, none] = some [some (.ref q), some v1, some (kW p.1), some (.int p.2)] := rfl
        rw [List.map_cons, lcGo, if_pos rfl, as]
        simp only [mYes, if_true, b, ents_go E hq v1 r ds er]
        rfl
theorem entries_i (E : Enc ix s h) (hq : ix .st = q) {l : List Spt} {es : List Dd} (ln : l.length ≤ 1000) (e : entsP s l = some es) : cF 2 m_law_entries [.ref q, .lv (l.map kS)] h = .ok (.lv (ddMs es)) h := by
  refine cF_new rfl (fnM_rt ?_) (pures_dd es)
  show mb_law_entries [some (.ref q), some (.lv (l.map kS)), none, none] h = _
  have l1 : (l.map kS).length ≤ SZ := by rw [List.length_map]; exact Nat.le_trans ln (by decide)
  have go : lcGo (fun _ => true) (.tp [.nm 2, .nm 3]) mYes le_law_entries_0 (l.map kS) (clrL [2, 3] [some (.ref q), some (.lv (l.map kS)), none, none]) h = .ok (ddMs es) h := ents_go E hq (.lv (l.map kS)) l es e
  unfold mb_law_entries
  simp only [sSeq, sIf, sExpr, sRet, sSet, sNil, sPass, mNot, mAnd, mOr, mTru, mN, mCons, mNil, m1, m2, m3c, mVar, mC, mB, isB, isTru, List.getElem?_cons_zero, List.getElem?_cons_succ, List.set_cons_zero, List.set_cons_succ, bindR_ok, bindS_ok, Option.isSome_some, Option.isSome_none, Bool.and_self, Bool.not_true, Bool.not_false, Bool.false_eq_true, if_true, if_false, mInC, mNotInC, List.cons_append, List.nil_append, mLc, iL, itL, if_pos l1, go, finR]
theorem reads_go (E : Enc ix s h) (hq : ix .st = q) (v0 v2 v3 v4 v5 v6 v7 v8 v9 v10 v11 v13 : Option MV) : ∀ (l : List Spt) (xs : List Int), readL s l = some xs →
    lcGo (fun _ => true) (.nm 12) mYes le_law_right_1 (l.map kS) [v0, some (.ref q), v2, v3, v4, v5, v6, v7, v8, v9, v10, v11, none, v13] h = .ok (xs.map .int) h
  | [], xs, e => by cases e; rfl
  | p :: r, xs, e => by
    unfold readL at e
    cases ed : readO s p.1 p.2 with
    | none => simp only [ed] at e; cases e
    | some d =>
      cases er : readL s r with
      | none => simp only [ed, er] at e; cases e
      | some ds =>
        simp only [ed, er] at e
        cases e
        have rd : cF 3 m_Store_read [.ref q, kW p.1, .int p.2] h = .ok (.int d) h := by
          subst hq
          unfold readO at ed
          cases et : aget p.1 s.ta with
          | none => simp only [et] at ed; cases ed
          | some t =>
            cases ea : aget p.2 t with
            | none => simp only [et, ea] at ed; cases ed
            | some en =>
              simp only [et, ea] at ed
              by_cases z : (decide (0 ≤ p.2) && decide (p.2 ≤ 31)) = true
              · rw [if_pos z] at ed
                simp only [Bool.and_eq_true, decide_eq_true_eq] at z
                exact readF E et ea z.1 z.2 ed
              · rw [if_neg z] at ed; cases ed
        have b : le_law_right_1 [v0, some (.ref q), v2, v3, v4, v5, v6, v7, v8, v9, v10, v11, some (kS p), v13] h = .ok (.int d) h := by
          have i0 : mIxA (kS p) (.int 0) h = .ok (kW p.1) h := ix_tup0 _ _ h
          have i1 : mIxA (kS p) (.int 1) h = .ok (.int p.2) h := ix_tup1 _ _ _ h
          unfold le_law_right_1
          simp only [sSeq, sIf, sExpr, sRet, sSet, sNil, sPass, mNot, mAnd, mOr, mTru, mN, mCons, mNil, m1, m2, m3c, mVar, mC, mB, isB, isTru, List.getElem?_cons_zero, List.getElem?_cons_succ, List.set_cons_zero, List.set_cons_succ, bindR_ok, bindS_ok, Option.isSome_some, Option.isSome_none, Bool.and_self, Bool.not_true, Bool.not_false, Bool.false_eq_true, if_true, if_false, mInC, mNotInC, List.cons_append, List.nil_append, methQ E hq (mn := Str.ofString "read") rfl, i0, i1, rd]
        have as : asP (.nm 12) (kS p) [v0, some (.ref q), v2, v3, v4, v5, v6, v7, v8, v9, v10, v11, none, v13] = some [v0, some (.ref q), v2, v3, v4, v5, v6, v7, v8, v9, v10, v11, some (kS p), v13] := rfl
        rw [List.map_cons, lcGo, if_pos rfl, as]
        simp only [mYes, if_true, b, reads_go E hq v0 v2 v3 v4 v5 v6 v7 v8 v9 v10 v11 v13 r ds er]
        rfl
noncomputable def restM (r : List (Int × Int)) : List Dd := r.map fun p => mvtD (p.1, p.2, true, 0)
theorem frm_ix {d : Dd} {f : Int} (e : frmO d = some f) (h : MH) : mIxA (ddM d) (.int 1) h = .ok (.int f) h := by
  unfold frmO at e
  split at e
  · cases e; exact ix_tup1 _ _ _ h
  · cases e
theorem head_ix {l : List Int} {g : Int} (e : l.head? = some g) (h : MH) : mIxA (.lv (l.map .int)) (.int 0) h = .ok (.int g) h := by
  cases l with
  | nil => cases e
  | cons a r =>
    cases e
    unfold mIxA isDk asD mIx asS atI
    simp only [Option.isSome_none, Bool.false_eq_true, if_false, L2.ixN]
    simp
theorem beside_i (O : Own ix s h P) (W : wsB s = true) (hq : ix .st = q) {to : Int} {r : List (Int × Int)} (e : besideP s to = some (s', r)) : ∃ ix' h', cN 2 m_law_begun_beside [.ref q, .int to] h = .ok (.lv (ddMs (restM r))) h' ∧ Own ix' s' h' P ∧ ix' .st = q := by
  unfold besideP at e
  cases et : aget 1 s.ta with
  | none => simp only [et] at e; cases e
  | some t =>
    simp only [et] at e
    have tb : cF 2 m_Store_table [.ref q, kW 1] h = .ok (tabM (tabP s 1 t)) h := by subst hq; exact tableF O.E et
    have ni := in_tabM true (tabP s 1 t) 20 h
    cases ea : aget 20 (tabP s 1 t) with
    | none =>
      simp only [ea] at e
      cases e
      rw [ea] at ni
      refine ⟨ix, h, (cN_val rfl).trans (fnM_rt ?_), O, hq⟩
      show mb_law_begun_beside [some (.ref q), some (.int to), none, none, none] h = _
      unfold mb_law_begun_beside
      simp only [sSeq, sIf, sExpr, sRet, sSet, sNil, sPass, mNot, mAnd, mOr, mTru, mN, mCons, mNil, m1, m2, m3c, mVar, mC, mB, isB, isTru, List.getElem?_cons_zero, List.getElem?_cons_succ, List.set_cons_zero, List.set_cons_succ, bindR_ok, bindS_ok, Option.isSome_some, Option.isSome_none, Bool.and_self, Bool.not_true, Bool.not_false, Bool.false_eq_true, if_true, if_false, mInC, mNotInC, List.cons_append, List.nil_append, wb, methQ O.E hq (mn := Str.ofString "table") rfl, tb, ni, mkLv, List.length_nil, show (0 ≤ SZ) = True from eq_true (by decide)]
      rfl
    | some d =>
      simp only [ea] at e
      cases ef : frmO d with
      | none => simp only [ef] at e; cases e
      | some o =>
        simp only [ef] at e
        cases eg : ((freeP s).filter fun g => !decide (g = to)).head? with
        | none => simp only [eg] at e; cases e
        | some g =>
          simp only [eg] at e
          cases eb : begO s o g with
          | none => simp only [eb] at e; cases e
          | some s1 =>
            simp only [eb] at e
            cases es : stepO s1 o with
            | none => simp only [es] at e; cases e
            | some sd =>
              obtain ⟨s2, dd⟩ := sd
              simp only [es] at e
              cases e
              rw [ea] at ni
              obtain ⟨ix1, h1, c1, O1, q1⟩ := begin_o O eb
              obtain ⟨ix2, h2, c2, O2, q2⟩ := step_o O1 es
              rw [hq] at c1 q1
              rw [q1] at c2 q2
              have fr : cF 1 m_Store_free [.ref q] h = .ok (.lv ((freeP s).map .int)) h := by subst hq; exact freeF O.E W
              have l1 : ((freeP s).map MV.int).length ≤ SZ := by rw [List.length_map]; exact Nat.le_trans (free_len O.E) (by decide)
              have go : ∀ v2 v3 : Option MV, lcGo (fun _ => true) (.nm 4) lt_law_begun_beside_0 le_law_begun_beside_0 ((freeP s).map .int) (clrL [4] [some (.ref q), some (.int to), v2, v3, none]) h = .ok (((freeP s).filter fun g => !decide (g = to)).map .int) h := fun v2 v3 => by
                refine lcGo_map rfl fun g _ => ⟨[some (.ref q), some (.int to), v2, v3, some (.int g)], rfl, ?_, fun _ => rfl⟩
                unfold lt_law_begun_beside_0
                simp only [sSeq, sIf, sExpr, sRet, sSet, sNil, sPass, mNot, mAnd, mOr, mTru, mN, mCons, mNil, m1, m2, m3c, mVar, mC, mB, isB, isTru, List.getElem?_cons_zero, List.getElem?_cons_succ, List.set_cons_zero, List.set_cons_succ, bindR_ok, bindS_ok, Option.isSome_some, Option.isSome_none, Bool.and_self, Bool.not_true, Bool.not_false, Bool.false_eq_true, if_true, if_false, mInC, mNotInC, List.cons_append, List.nil_append, neA_int]
              refine ⟨ix2, h2, (cN_val rfl).trans (fnM_rt ?_), O2, q2⟩
              show mb_law_begun_beside [some (.ref q), some (.int to), none, none, none] h = _
              unfold mb_law_begun_beside
              simp only [sSeq, sIf, sExpr, sRet, sSet, sNil, sPass, mNot, mAnd, mOr, mTru, mN, mCons, mNil, m1, m2, m3c, mVar, mC, mB, isB, isTru, List.getElem?_cons_zero, List.getElem?_cons_succ, List.set_cons_zero, List.set_cons_succ, bindR_ok, bindS_ok, Option.isSome_some, Option.isSome_none, Bool.and_self, Bool.not_true, Bool.not_false, Bool.false_eq_true, if_true, if_false, mInC, mNotInC, List.cons_append, List.nil_append, wb, methQ O.E hq (mn := Str.ofString "table") rfl, tb, ni, ix_tabM ea, frm_ix ef, mLc, iL, methQ O.E hq (mn := Str.ofString "free") rfl, fr, itL, if_pos l1, go, finV, head_ix eg, methQ O.E hq (mn := Str.ofString "begin") rfl, c1, methQ O1.E q1 (mn := Str.ofString "step") rfl, c2, mkTup, mkLv, List.length_cons, List.length_nil, show (0 + 1 + 1 + 1 + 1 ≤ SZ) = True from eq_true (by decide), show (0 + 1 ≤ SZ) = True from eq_true (by decide)]
              rfl
end
end MP
namespace MP
open PySem PySem.Spec PyProof.Rows L2
theorem mul_rep (d : Dd) {k : Int} (k0 : 0 ≤ k) (k1 : k ≤ 1000) (h : MH) : mMul finV (.lv [ddM d]) (.int k) h = .ok (.lv (ddMs (List.replicate k.toNat d))) h := by
  have c : (inB k && decide ([ddM d].length * k.toNat ≤ SZ)) = true := by
    rw [inB_of (by omega) (by omega), Bool.true_and]
    refine decide_eq_true ?_
    rw [List.length_singleton, Nat.one_mul]
    exact Nat.le_trans (show k.toNat ≤ 1000 by omega) (by decide)
  have f : (List.replicate k.toNat [ddM d]).flatten = ddMs (List.replicate k.toNat d) := by
    rw [ddMs_map, List.map_replicate, List.flatten_replicate_singleton]
  show (match asL (.lv [ddM d]) h with | some l => if (inB k && decide (l.length * k.toNat ≤ SZ)) = true then finV (List.replicate k.toNat l).flatten h else .bad | none => .bad) = _
  simp only [asL, c, if_true, f, finV]
theorem add_li {a b : List Dd} (ln : a.length + b.length ≤ 3000) (h : MH) : mAdd finV (.lv (ddMs a)) (.lv (ddMs b)) h = .ok (.lv (ddMs (a ++ b))) h := by
  have l : (ddMs a).length + (ddMs b).length ≤ SZ := by rw [ddMs_map, ddMs_map, List.length_map, List.length_map]; exact Nat.le_trans ln (by decide)
  have e : ddMs (a ++ b) = ddMs a ++ ddMs b := by rw [ddMs_map, ddMs_map, ddMs_map, List.map_append]
  unfold mAdd
  simp only [asL, if_pos l, finV, e]
theorem dep_rep (d : Dd) : ∀ n : Nat, depDs (List.replicate n d) ≤ depD d
  | 0 => Nat.zero_le _
  | n + 1 => by rw [List.replicate_succ, depDs]; have := dep_rep d n; omega
theorem dep_app : ∀ a b : List Dd, depDs (a ++ b) = max (depDs a) (depDs b)
  | [], b => by rw [List.nil_append, depDs]; omega
  | x :: a, b => by rw [List.cons_append, depDs, depDs, dep_app a b]; omega
theorem dep_te {s : Sto} {w : Tn} {a : Int} {e : Ent} {d : Dd} (h : teD s w a e = some d) : depD d ≤ 1 := by
  unfold teD at h
  split at h
  · split at h
    · cases h; exact Nat.le_refl _
    · cases h
  · split at h
    · cases h; exact Nat.le_refl _
    · split at h <;> (cases h; exact Nat.le_refl _)
theorem dep_tabG (s : Sto) (w : Tn) : ∀ (r : List (Int × Ent)) (acc : List (Int × Dd)), (∀ k d, aget k acc = some d → depD d ≤ 1) → ∀ k d, aget k (tabG s w r acc) = some d → depD d ≤ 1
  | [], acc, h, k, d, e => h k d e
  | (a, en) :: r, acc, h, k, d, e => by
    unfold tabG at e
    cases et : teD s w a en with
    | none => simp only [et] at e; exact dep_tabG s w r acc h k d e
    | some x =>
      simp only [et] at e
      refine dep_tabG s w r _ (fun k' d' e' => ?_) k d e
      rw [aget_aput] at e'
      by_cases z : a = k'
      · rw [if_pos z] at e'; cases e'; exact dep_te et
      · rw [if_neg z] at e'; exact h k' d' e'
theorem dep_ents (s : Sto) : ∀ (l : List Spt) (es : List Dd), entsP s l = some es → depDs es ≤ 1
  | [], es, e => by cases e; exact Nat.zero_le _
  | p :: r, es, e => by
    unfold entsP at e
    cases ed : tabO s p.1 p.2 with
    | none => simp only [ed] at e; cases e
    | some d =>
      cases er : entsP s r with
      | none => simp only [ed, er] at e; cases e
      | some ds =>
        simp only [ed, er] at e
        cases e
        have h1 := dep_ents s r ds er
        have h2 : depD d ≤ 1 := by
          unfold tabO at ed
          cases et : aget p.1 s.ta with
          | none => simp only [et] at ed; cases ed
          | some t =>
            simp only [et] at ed
            exact dep_tabG s p.1 _ [] (fun k d e => by cases e) _ _ ed
        rw [depDs]; omega
theorem dep_step {s s' : Sto} {f : Int} {d : Dd} (e : stepO s f = some (s', d)) : depD d ≤ 1 := by
  unfold stepO at e
  cases em : aget f s.mo with
  | none => simp only [em] at e; cases e
  | some m =>
    simp only [em] at e
    by_cases hc : m.cop = false
    · rw [if_pos hc] at e
      obtain ⟨e2, rfl⟩ := withD_some e
      exact Nat.le_refl _
    · rw [if_neg hc] at e
      cases el : aget f s.sp with
      | none => simp only [el] at e; cases e
      | some l =>
        simp only [el] at e
        cases er : restP m (isrt leS2 (l.map (·.1))) with
        | cons p rr =>
          simp only [er] at e
          obtain ⟨e2, rfl⟩ := withD_some e
          exact Nat.le_refl _
        | nil =>
          simp only [er] at e
          cases ew : aget f s.wo with
          | none => simp only [ew] at e; cases e
          | some x =>
            cases et : aget m.to s.sp with
            | some _ => simp only [ew, et] at e; cases e
            | none =>
              cases eg : finG m.to (l.map (·.1)) s.ta with
              | none => simp only [ew, et, eg] at e; cases e
              | some ta2 =>
                simp only [ew, et, eg] at e
                obtain ⟨e2, rfl⟩ := withD_some e
                exact Nat.le_refl _
theorem dep_mvt (p : MvT) : depD (mvtD p) ≤ 1 := Nat.le_refl _
theorem dep_ten (sp : List Spt) : depD (tenD sp) ≤ 3 := by
  have := depDs_map dep_sp sp
  unfold tenD
  simp only [depD, depDs]
  omega
theorem dep_mvs (s : Sto) : depDs (mvsP s) ≤ 1 := depDs_map dep_told _
theorem srt_mvt {l : List MvT} (nd : nodA l = true) (ln : l.length ≤ 1000) (h : MH) : mSrt finV [.lv (ddMs (l.map mvtD))] h = .ok (.lv (ddMs ((isrt leA l).map mvtD))) h := by
  have so : sokB (l.map fun p => ddP (mvtD p)) = true := by
    refine sok_tup (fun a _ b _ => rfl) (fun a _ => rfl) (fun a _ => ?_) (Nat.le_trans ln (by decide))
    have := dep_dd (mvtD a)
    have := dep_mvt a
    omega
  have c : collM (.lv (ddMs (l.map mvtD))) h = some (l.map fun p => ddM (mvtD p)) := by
    show some (ddMs (l.map mvtD)) = _
    rw [ddMs_map, List.map_map]; rfl
  have := srt_of (fin := finV) (d := fun p => ddP (mvtD p)) c (fun p _ => toD_dd h 12 _ (Nat.lt_of_le_of_lt (dep_mvt p) (by decide))) so (leA_M nd fun p => [.int p.2.1, .bl p.2.2.1, .int p.2.2.2]) leA_tr leA_to (leA_an nd)
  rw [this, ddMs_map, List.map_map]
  rfl
theorem m2_ok {f : MV → MV → MH → R MV} {ra rb : EM} {σ : Lo} {h : MH} {a b v : MV} (ea : ra σ h = .ok a h) (eb : rb σ h = .ok b h) (e : f a b h = .ok v h) : m2 f ra rb σ h = .ok v h := by
  show bindR (ra σ h) _ = _
  rw [ea, bindR_ok, eb, bindR_ok, e]
theorem mB_ok {r : EM} {σ : Lo} {h : MH} {b : Bool} (e : r σ h = .ok (.bl b) h) : mB r σ h = .ok b h := by
  show bindR (r σ h) isB = _
  rw [e]; rfl
theorem set_ok {r : EM} {σ : Lo} {h : MH} {v : MV} {i : Nat} (e : r σ h = .ok v h) : sSet i r σ h = .nx (σ.set i (some v)) h := by
  show bindS (r σ h) σ _ = _
  rw [e, bindS_ok]
theorem if_or_no {ta tb : TM} {a : SM} {σ : Lo} {h : MH} (e1 : ta σ h = .ok false h) (e2 : tb σ h = .ok false h) : sIf (mOr ta tb) a sNil σ h = .nx σ h := by
  show bindS (bindR (ta σ h) _) σ _ = _
  rw [e1, bindR_ok]
  show bindS (if false = true then _ else tb σ h) σ _ = _
  rw [if_neg (by decide), e2, bindS_ok]
  rfl
theorem if_no {ta : TM} {a : SM} {σ : Lo} {h : MH} (e1 : ta σ h = .ok false h) : sIf ta a sNil σ h = .nx σ h := by
  show bindS (ta σ h) σ _ = _
  rw [e1, bindS_ok]
  rfl
theorem var_ok {σ : Lo} {h : MH} {i : Nat} {v : MV} (e : σ[i]? = some (some v)) : mVar i σ h = .ok v h := by
  show (match σ[i]? with | some (some m) => R.ok m h | _ => .bad) = _
  rw [e]
noncomputable def sigR (np q : Nat) (sp : List Spt) (f : Int) (v4 : MV) (to : Int) (rest : List (Int × Int)) (v7 : MV) (due : List Dd) (z9 z10 z11 : Option MV) : Lo :=
  [some (.ref np), some (.ref q), some (.lv (sp.map kS)), some (.int f), some v4, some (.int to), some (.lv (ddMs (restM rest))), some v7, some (.lv (ddMs due)), z9, z10, z11, none, none]
section
variable {ix : Ro → Nat} {s s' : Sto} {h : MH} {P : List (Nat × MO)} {q : Nat}
theorem what_neB (E : Enc ix s h) (W : wsB s = true) (hq : ix .st = q) {f : Int} (z0 : 0 ≤ f) (z1 : f < s.size) : cF 2 m_Store_what [.ref q, .int f] h = .ok (ddM (whD s f)) h := by subst hq; exact whatF E W f z0 z1
theorem lk1 {np : Nat} {sp : List Spt} {f to : Int} {rest : List (Int × Int)} {i : Nat} {v4 v7 : MV} {due : List Dd} {z10 z11 : Option MV} : sSet 10 (mN mMax (mCons (mC (.int 0)) (mCons (m2 mSubI (mVar 9) (mC (.int 1))) mNil))) (sigR np q sp f v4 to rest v7 due (some (.int (i : Int))) z10 z11) h = .nx (sigR np q sp f v4 to rest v7 due (some (.int (i : Int))) (some (.int ((i - 1 : Nat) : Int))) z11) h := by
  have rh : (if (i : Int) - 1 > 0 then (i : Int) - 1 else 0) = ((i - 1 : Nat) : Int) := by
    by_cases z : (i : Int) - 1 > 0
    · rw [if_pos z]; omega
    · rw [if_neg z]; omega
  unfold sigR
  simp only [sSeq, sIf, sExpr, sRet, sSet, sNil, sPass, mNot, mAnd, mOr, mTru, mN, mCons, mNil, m1, m2, m3c, mVar, mC, mB, isB, isTru, List.getElem?_cons_zero, List.getElem?_cons_succ, List.set_cons_zero, List.set_cons_succ, bindR_ok, bindS_ok, Option.isSome_some, Option.isSome_none, Bool.and_self, Bool.not_true, Bool.not_false, Bool.false_eq_true, if_true, if_false, mInC, mNotInC, List.cons_append, List.nil_append, sub_int, mMax, rh]
theorem lk2 {np : Nat} {sp : List Spt} {f to : Int} {rest : List (Int × Int)} {i : Nat} {v4 v7 : MV} {due : List Dd} {z10 z11 : Option MV} (E : Enc ix s h) (W : wsB s = true) (hq : ix .st = q) (sz : s.size = 16) (f0 : 0 ≤ f) (f1 : f < 16) (t0 : 0 ≤ to) (t1 : to < 16) (lsp : sp.length ≤ 4) (lr : rest.length ≤ 1) (li : i ≤ 10) (nd : nodA (movesL f to rest i) = true) (L1 : eqvD (.li (mvsP s)) (.li ((isrt leA (movesL f to rest i)).map mvtD)) = true) (K2 : eqvD (whD s to) (.tup [.st .held, .int f]) = true) : sIf (mOr (mB (m2 mNeB (mMethC 0 (Str.ofString "moves") (mVar 1) mNil fun v as h => cF 1 m_Store_moves (v :: (as ++ [])) h) (mN (mSrt finV) (mCons (m2 (mAdd finV) (mN mkLv (mCons (mN mkTup (mCons (mVar 3) (mCons (mVar 5) (mCons (m2 mGt (mVar 9) (mC (.int 0))) (mCons (mVar 10) mNil))))) mNil)) (mVar 6)) mNil)))) (mB (m2 mNeB (mMethC 0 (Str.ofString "what") (mVar 1) (mCons (mVar 5) mNil) fun v as h => cF 2 m_Store_what (v :: (as ++ [])) h) (mN mkTup (mCons (mC (.str (Str.ofString "held"))) (mCons (mVar 3) mNil))))))
          (sRet (mC (.bl false))) sNil (sigR np q sp f v4 to rest v7 due (some (.int (i : Int))) (some (.int ((i - 1 : Nat) : Int))) z11) h = .nx (sigR np q sp f v4 to rest v7 due (some (.int (i : Int))) (some (.int ((i - 1 : Nat) : Int))) z11) h := by
  have mv : cF 1 m_Store_moves [.ref q] h = .ok (.lv (ddMs (mvsP s))) h := by subst hq; exact movesF E
  have wt := what_neB E W hq t0 (by omega)
  have lml : (movesL f to rest i).length ≤ 2 := by unfold movesL; rw [List.length_cons, List.length_map]; omega
  have sr := srt_mvt nd (by omega) h
  have ad : mAdd finV (.lv [.tup [.int f, .int to, .bl (decide (0 < (i : Int))), .int ((i - 1 : Nat) : Int)]]) (.lv (ddMs (restM rest))) h = .ok (.lv (ddMs ((movesL f to rest i).map mvtD))) h := by
    have := add_li (a := [mvtD (f, to, decide (0 < i), ((i - 1 : Nat) : Int))]) (b := restM rest) (by unfold restM; rw [List.length_map]; show 1 + _ ≤ _; omega) h
    have e : (decide (0 < (i : Int))) = decide (0 < i) := by
      by_cases z : 0 < i
      · rw [decide_eq_true z, decide_eq_true (by omega)]
      · rw [decide_eq_false z, decide_eq_false (by omega)]
    rw [e]
    refine this.trans ?_
    unfold movesL restM
    rw [List.map_cons, List.map_map]
    rfl
  have d1 : depD (.li (mvsP s)) < 12 := by rw [depD]; have := dep_mvs s; omega
  have d2 : depD (.li ((isrt leA (movesL f to rest i)).map mvtD)) < 12 := by rw [depD]; have := depDs_map dep_mvt (isrt leA (movesL f to rest i)); omega
  have n1 := neB_dd d1 d2 h
  rw [L1, ddM, ddM] at n1
  have n2 := neB_dd (x := whD s to) (y := .tup [.st .held, .int f]) (by have := dep_wh s to; omega) (by show 1 + 0 < 12; decide) h
  rw [K2] at n2
  have n2' : mNeB (ddM (whD s to)) (.tup [.str (Str.ofString "held"), .int f]) h = .ok (.bl (!true)) h := n2
  have gt0 : mGt (.int (i : Int)) (.int 0) h = .ok (.bl (decide (0 < (i : Int)))) h := rfl
  have SZ4 : (0 + 1 + 1 + 1 + 1 ≤ SZ) = True := eq_true (by decide)
  have SZ3 : (0 + 1 + 1 + 1 ≤ SZ) = True := eq_true (by decide)
  have SZ2 : (0 + 1 + 1 ≤ SZ) = True := eq_true (by decide)
  have SZ1 : (0 + 1 ≤ SZ) = True := eq_true (by decide)
  unfold sigR
  simp only [sSeq, sIf, sExpr, sRet, sSet, sNil, sPass, mNot, mAnd, mOr, mTru, mN, mCons, mNil, m1, m2, m3c, mVar, mC, mB, isB, isTru, List.getElem?_cons_zero, List.getElem?_cons_succ, List.set_cons_zero, List.set_cons_succ, bindR_ok, bindS_ok, Option.isSome_some, Option.isSome_none, Bool.and_self, Bool.not_true, Bool.not_false, Bool.false_eq_true, if_true, if_false, mInC, mNotInC, List.cons_append, List.nil_append, methQ E hq (mn := Str.ofString "moves") rfl, mv, gt0, mkTup, mkLv, List.length_cons, List.length_nil, SZ4, SZ1, SZ2, ad, sr, n1, methQ E hq (mn := Str.ofString "what") rfl, wt, n2']
theorem lk3 {np : Nat} {sp : List Spt} {f to : Int} {rest : List (Int × Int)} {i : Nat} {v4 v7 : MV} {due : List Dd} {z10 z11 : Option MV} (E : Enc ix s h) (W : wsB s = true) (hq : ix .st = q) (sz : s.size = 16) (f0 : 0 ≤ f) (f1 : f < 16) (t0 : 0 ≤ to) (t1 : to < 16) (lsp : sp.length ≤ 4) (lr : rest.length ≤ 1) (li : i ≤ 10) (L3 : eqvD (whD s f) (tenD sp) = true) (L4 : ((freeP s).any fun g => decide (g = to)) = false) : sIf (mOr (mB (m2 mNeB (mMethC 0 (Str.ofString "what") (mVar 1) (mCons (mVar 3) mNil) fun v as h => cF 2 m_Store_what (v :: (as ++ [])) h) (mN mkTup (mCons (mC (.str (Str.ofString "tenants"))) (mCons (mC (.int 7)) (mCons (m1 mTup1 (mVar 2)) mNil)))))) (mB (m2 mInC (mVar 5) (mMethC 0 (Str.ofString "free") (mVar 1) mNil fun v as h => cF 1 m_Store_free (v :: (as ++ [])) h))))
          (sRet (mC (.bl false))) sNil (sigR np q sp f v4 to rest v7 due (some (.int (i : Int))) (some (.int ((i - 1 : Nat) : Int))) z11) h = .nx (sigR np q sp f v4 to rest v7 due (some (.int (i : Int))) (some (.int ((i - 1 : Nat) : Int))) z11) h := by
  have wf := what_neB E W hq f0 (by omega)
  have fr : cF 1 m_Store_free [.ref q] h = .ok (.lv ((freeP s).map .int)) h := by subst hq; exact freeF E W
  have n3 := neB_dd (x := whD s f) (y := tenD sp) (by have := dep_wh s f; omega) (by have := dep_ten sp; omega) h
  rw [L3] at n3
  have n3' : mNeB (ddM (whD s f)) (.tup [.str (Str.ofString "tenants"), .int 7, .tup (sp.map kS)]) h = .ok (.bl (!true)) h := by
    rw [← ddM_sps]; exact n3
  have ni := inD_dd false (x := .int to) (l := (freeP s).map .int) (by show 0 < 12; decide) (by rw [depD]; have := depDs_map (g := Dd.int) (n := 0) (fun _ => Nat.le_refl _) (freeP s); omega) h
  have ai : ((freeP s).map Dd.int).any (fun z => eqvD z (.int to)) = (freeP s).any fun g => decide (g = to) := by
    rw [List.any_map]; rfl
  rw [ai, ddMs_ints] at ni
  rw [L4] at ni
  have ni' : mInCX false (.int to) (.lv ((freeP s).map .int)) h = .ok (.bl false) h := ni
  have SZ4 : (0 + 1 + 1 + 1 + 1 ≤ SZ) = True := eq_true (by decide)
  have SZ3 : (0 + 1 + 1 + 1 ≤ SZ) = True := eq_true (by decide)
  have SZ2 : (0 + 1 + 1 ≤ SZ) = True := eq_true (by decide)
  have SZ1 : (0 + 1 ≤ SZ) = True := eq_true (by decide)
  unfold sigR
  simp only [sSeq, sIf, sExpr, sRet, sSet, sNil, sPass, mNot, mAnd, mOr, mTru, mN, mCons, mNil, m1, m2, m3c, mVar, mC, mB, isB, isTru, List.getElem?_cons_zero, List.getElem?_cons_succ, List.set_cons_zero, List.set_cons_succ, bindR_ok, bindS_ok, Option.isSome_some, Option.isSome_none, Bool.and_self, Bool.not_true, Bool.not_false, Bool.false_eq_true, if_true, if_false, mInC, mNotInC, List.cons_append, List.nil_append, methQ E hq (mn := Str.ofString "what") rfl, wf, tup1_lv, mkTup, List.length_cons, List.length_nil, SZ3, n3', methQ E hq (mn := Str.ofString "free") rfl, fr, ni']
theorem lk4 {np : Nat} {sp : List Spt} {f to : Int} {rest : List (Int × Int)} {i : Nat} {v4 v7 : MV} {due : List Dd} {z10 z11 : Option MV} (sz : s.size = 16) (f0 : 0 ≤ f) (f1 : f < 16) (t0 : 0 ≤ to) (t1 : to < 16) (lsp : sp.length ≤ 4) (lr : rest.length ≤ 1) (li : i ≤ 10) : sSet 11 (m2 (mAdd finV) (m2 (mMul finV) (mN mkLv (mCons (mN mkTup (mCons (mC (.str (Str.ofString "small"))) (mCons (mVar 5) (mCons (mC (.str (Str.ofString "write"))) mNil)))) mNil)) (mVar 10)) (m2 (mMul finV) (mN mkLv (mCons (mN mkTup (mCons (mC (.str (Str.ofString "moving"))) (mCons (mVar 3) (mCons (mC (.str (Str.ofString "write"))) mNil)))) mNil)) (m2 mSubI (mN mLenC (mCons (mVar 2) mNil)) (mVar 10))))
          (sigR np q sp f v4 to rest v7 due (some (.int (i : Int))) (some (.int ((i - 1 : Nat) : Int))) z11) h = .nx (sigR np q sp f v4 to rest v7 due (some (.int (i : Int))) (some (.int ((i - 1 : Nat) : Int))) (some (.lv (ddMs (List.replicate (i - 1) (rowD .small to) ++ List.replicate (sp.length - (i - 1)) (rowD .moving f)))))) h := by
  have lsm : mLenC [.lv (sp.map kS)] h = .ok (.int (sp.length : Int)) h := by
    show R.ok (MV.int ((sp.map kS).length : Nat)) h = _
    rw [List.length_map]
  have mu1 := mul_rep (rowD .small to) (k := ((i - 1 : Nat) : Int)) (by omega) (by omega) h
  have mu2 : mMul finV (.lv [.tup [.str (Str.ofString "moving"), .int f, .str (Str.ofString "write")]]) (.int ((sp.length : Int) - ((i - 1 : Nat) : Int))) h = .ok (.lv (ddMs (List.replicate (sp.length - (i - 1)) (rowD .moving f)))) h := by
    by_cases z : 0 ≤ (sp.length : Int) - ((i - 1 : Nat) : Int)
    · have := mul_rep (rowD .moving f) z (by omega) h
      rw [show ((sp.length : Int) - ((i - 1 : Nat) : Int)).toNat = sp.length - (i - 1) by omega] at this
      exact this
    · have c : (inB ((sp.length : Int) - ((i - 1 : Nat) : Int)) && decide ([ddM (rowD .moving f)].length * ((sp.length : Int) - ((i - 1 : Nat) : Int)).toNat ≤ SZ)) = true := by
        rw [inB_of (by omega) (by omega), show ((sp.length : Int) - ((i - 1 : Nat) : Int)).toNat = 0 by omega]; rfl
      rw [show sp.length - (i - 1) = 0 by omega]
      show (match asL (.lv [ddM (rowD .moving f)]) h with | some l => if (inB ((sp.length : Int) - ((i - 1 : Nat) : Int)) && decide (l.length * ((sp.length : Int) - ((i - 1 : Nat) : Int)).toNat ≤ SZ)) = true then finV (List.replicate ((sp.length : Int) - ((i - 1 : Nat) : Int)).toNat l).flatten h else .bad | none => .bad) = _
      simp only [asL, c, if_true, finV]
      rw [show ((sp.length : Int) - ((i - 1 : Nat) : Int)).toNat = 0 by omega]
      rfl
  have mu1' : mMul finV (.lv [.tup [.str (Str.ofString "small"), .int to, .str (Str.ofString "write")]]) (.int ((i - 1 : Nat) : Int)) h = .ok (.lv (ddMs (List.replicate (i - 1) (rowD .small to)))) h := mu1
  have ad2 := add_li (a := List.replicate (i - 1) (rowD .small to)) (b := List.replicate (sp.length - (i - 1)) (rowD .moving f)) (by rw [List.length_replicate, List.length_replicate]; omega) h
  have SZ4 : (0 + 1 + 1 + 1 + 1 ≤ SZ) = True := eq_true (by decide)
  have SZ3 : (0 + 1 + 1 + 1 ≤ SZ) = True := eq_true (by decide)
  have SZ2 : (0 + 1 + 1 ≤ SZ) = True := eq_true (by decide)
  have SZ1 : (0 + 1 ≤ SZ) = True := eq_true (by decide)
  have c1 : mN mkLv (mCons (mN mkTup (mCons (mC (.str (Str.ofString "small"))) (mCons (mVar 5) (mCons (mC (.str (Str.ofString "write"))) mNil)))) mNil) (sigR np q sp f v4 to rest v7 due (some (.int (i : Int))) (some (.int ((i - 1 : Nat) : Int))) z11) h = .ok (.lv [.tup [.str (Str.ofString "small"), .int to, .str (Str.ofString "write")]]) h := by
    unfold sigR
    simp only [sSeq, sIf, sExpr, sRet, sSet, sNil, sPass, mNot, mAnd, mOr, mTru, mN, mCons, mNil, m1, m2, m3c, mVar, mC, mB, isB, isTru, List.getElem?_cons_zero, List.getElem?_cons_succ, List.set_cons_zero, List.set_cons_succ, bindR_ok, bindS_ok, Option.isSome_some, Option.isSome_none, Bool.and_self, Bool.not_true, Bool.not_false, Bool.false_eq_true, if_true, if_false, mInC, mNotInC, List.cons_append, List.nil_append, mkTup, mkLv, List.length_cons, List.length_nil, SZ3, SZ1]
  have c2 : mN mkLv (mCons (mN mkTup (mCons (mC (.str (Str.ofString "moving"))) (mCons (mVar 3) (mCons (mC (.str (Str.ofString "write"))) mNil)))) mNil) (sigR np q sp f v4 to rest v7 due (some (.int (i : Int))) (some (.int ((i - 1 : Nat) : Int))) z11) h = .ok (.lv [.tup [.str (Str.ofString "moving"), .int f, .str (Str.ofString "write")]]) h := by
    unfold sigR
    simp only [sSeq, sIf, sExpr, sRet, sSet, sNil, sPass, mNot, mAnd, mOr, mTru, mN, mCons, mNil, m1, m2, m3c, mVar, mC, mB, isB, isTru, List.getElem?_cons_zero, List.getElem?_cons_succ, List.set_cons_zero, List.set_cons_succ, bindR_ok, bindS_ok, Option.isSome_some, Option.isSome_none, Bool.and_self, Bool.not_true, Bool.not_false, Bool.false_eq_true, if_true, if_false, mInC, mNotInC, List.cons_append, List.nil_append, mkTup, mkLv, List.length_cons, List.length_nil, SZ3, SZ1]
  have c3 : mN mLenC (mCons (mVar 2) mNil) (sigR np q sp f v4 to rest v7 due (some (.int (i : Int))) (some (.int ((i - 1 : Nat) : Int))) z11) h = .ok (.int (sp.length : Int)) h := by
    unfold sigR
    simp only [sSeq, sIf, sExpr, sRet, sSet, sNil, sPass, mNot, mAnd, mOr, mTru, mN, mCons, mNil, m1, m2, m3c, mVar, mC, mB, isB, isTru, List.getElem?_cons_zero, List.getElem?_cons_succ, List.set_cons_zero, List.set_cons_succ, bindR_ok, bindS_ok, Option.isSome_some, Option.isSome_none, Bool.and_self, Bool.not_true, Bool.not_false, Bool.false_eq_true, if_true, if_false, mInC, mNotInC, List.cons_append, List.nil_append, lsm]
  have c4 : mVar 10 (sigR np q sp f v4 to rest v7 due (some (.int (i : Int))) (some (.int ((i - 1 : Nat) : Int))) z11) h = .ok (.int ((i - 1 : Nat) : Int)) h := var_ok rfl
  exact set_ok (m2_ok (m2_ok c1 c4 mu1') (m2_ok c2 (m2_ok c3 c4 (sub_int _ _ h)) mu2) ad2)
theorem lk5 {np : Nat} {sp : List Spt} {f to : Int} {rest : List (Int × Int)} {i : Nat} {v4 v7 : MV} {due : List Dd} {z10 z11 : Option MV} {rows es : List Dd} {xs : List Int} (E : Enc ix s h) (W : wsB s = true) (hq : ix .st = q) (sz : s.size = 16) (f0 : 0 ≤ f) (f1 : f < 16) (t0 : 0 ≤ to) (t1 : to < 16) (lsp : sp.length ≤ 4) (lr : rest.length ≤ 1) (li : i ≤ 10) (dr : depD (.li rows) < 12) (ee : entsP s sp = some es) (L5 : eqvD (.li es) (.li rows) = true) (ex : readL s sp = some xs) (L6 : eqvD (.li (xs.map .int)) (.li (List.replicate sp.length (.int 7))) = true) : sIf (mOr (mB (m2 mNeB (mN (cF 2 m_law_entries) (mCons (mVar 1) (mCons (mVar 2) mNil))) (mVar 11))) (mB (m2 mNeB (mLc (iL (mVar 2)) (.nm 12) mYes le_law_right_1 [12] finV) (m2 (mMul finV) (mN mkLv (mCons (mC (.int 7)) mNil)) (mN mLenC (mCons (mVar 2) mNil))))))
          (sRet (mC (.bl false))) sNil (sigR np q sp f v4 to rest v7 due (some (.int (i : Int))) (some (.int ((i - 1 : Nat) : Int))) (some (.lv (ddMs rows)))) h = .nx (sigR np q sp f v4 to rest v7 due (some (.int (i : Int))) (some (.int ((i - 1 : Nat) : Int))) (some (.lv (ddMs rows)))) h := by
  have lsm : mLenC [.lv (sp.map kS)] h = .ok (.int (sp.length : Int)) h := by
    show R.ok (MV.int ((sp.map kS).length : Nat)) h = _
    rw [List.length_map]
  have en := entries_i E hq (by omega) ee
  have n4 := neB_dd (x := .li es) (y := .li rows) (by rw [depD]; have := dep_ents s sp es ee; omega) dr h
  rw [L5, ddM, ddM] at n4
  have lk1 : (sp.map kS).length ≤ SZ := by rw [List.length_map]; exact Nat.le_trans (show _ ≤ 1000 by omega) (by decide)
  have rg : ∀ z10 z11 : Option MV, lcGo (fun _ => true) (.nm 12) mYes le_law_right_1 (sp.map kS) (clrL [12] (sigR np q sp f v4 to rest v7 due (some (.int (i : Int))) z10 z11)) h = .ok (xs.map .int) h := fun z10 z11 => reads_go E hq _ _ _ _ _ _ _ _ _ _ _ _ sp xs ex
  have mu3 := mul_rep (.int 7) (k := (sp.length : Int)) (by omega) (by omega) h
  have mu3' : mMul finV (.lv [.int 7]) (.int (sp.length : Int)) h = .ok (.lv (ddMs (List.replicate sp.length (.int 7)))) h := by
    rw [show ((sp.length : Int)).toNat = sp.length by omega] at mu3; exact mu3
  have n5 := neB_dd (x := .li (xs.map .int)) (y := .li (List.replicate sp.length (.int 7))) (by rw [depD]; have := depDs_map (g := Dd.int) (n := 0) (fun _ => Nat.le_refl _) xs; omega) (by rw [depD]; have := dep_rep (.int 7) sp.length; have : depD (.int 7) = 0 := rfl; omega) h
  rw [L6, ddM, ddM, ddMs_ints] at n5
  have SZ4 : (0 + 1 + 1 + 1 + 1 ≤ SZ) = True := eq_true (by decide)
  have SZ3 : (0 + 1 + 1 + 1 ≤ SZ) = True := eq_true (by decide)
  have SZ2 : (0 + 1 + 1 ≤ SZ) = True := eq_true (by decide)
  have SZ1 : (0 + 1 ≤ SZ) = True := eq_true (by decide)
  have rg' := rg (some (.int ((i - 1 : Nat) : Int))) (some (.lv (ddMs rows)))
  generalize hσ : sigR np q sp f v4 to rest v7 due (some (.int (i : Int))) (some (.int ((i - 1 : Nat) : Int))) (some (.lv (ddMs rows))) = σ at rg' ⊢
  have v1 : σ[1]? = some (some (.ref q)) := by rw [← hσ]; rfl
  have v2 : σ[2]? = some (some (.lv (sp.map kS))) := by rw [← hσ]; rfl
  have v11 : σ[11]? = some (some (.lv (ddMs rows))) := by rw [← hσ]; rfl
  have c1 : mN (cF 2 m_law_entries) (mCons (mVar 1) (mCons (mVar 2) mNil)) σ h = .ok (.lv (ddMs es)) h := by
    simp only [sSeq, sIf, sExpr, sRet, sSet, sNil, sPass, mNot, mAnd, mOr, mTru, mN, mCons, mNil, m1, m2, m3c, mVar, mC, mB, isB, isTru, List.getElem?_cons_zero, List.getElem?_cons_succ, List.set_cons_zero, List.set_cons_succ, bindR_ok, bindS_ok, Option.isSome_some, Option.isSome_none, Bool.and_self, Bool.not_true, Bool.not_false, Bool.false_eq_true, if_true, if_false, mInC, mNotInC, List.cons_append, List.nil_append, v1, v2, en]
  have c2 : mLc (iL (mVar 2)) (.nm 12) mYes le_law_right_1 [12] finV σ h = .ok (.lv (xs.map .int)) h := by
    simp only [sSeq, sIf, sExpr, sRet, sSet, sNil, sPass, mNot, mAnd, mOr, mTru, mN, mCons, mNil, m1, m2, m3c, mVar, mC, mB, isB, isTru, List.getElem?_cons_zero, List.getElem?_cons_succ, List.set_cons_zero, List.set_cons_succ, bindR_ok, bindS_ok, Option.isSome_some, Option.isSome_none, Bool.and_self, Bool.not_true, Bool.not_false, Bool.false_eq_true, if_true, if_false, mInC, mNotInC, List.cons_append, List.nil_append, mLc, iL, v2, itL, if_pos lk1, rg', finV]
  have c3 : mN mLenC (mCons (mVar 2) mNil) σ h = .ok (.int (sp.length : Int)) h := by
    simp only [sSeq, sIf, sExpr, sRet, sSet, sNil, sPass, mNot, mAnd, mOr, mTru, mN, mCons, mNil, m1, m2, m3c, mVar, mC, mB, isB, isTru, List.getElem?_cons_zero, List.getElem?_cons_succ, List.set_cons_zero, List.set_cons_succ, bindR_ok, bindS_ok, Option.isSome_some, Option.isSome_none, Bool.and_self, Bool.not_true, Bool.not_false, Bool.false_eq_true, if_true, if_false, mInC, mNotInC, List.cons_append, List.nil_append, v2, lsm]
  have c4 : mN mkLv (mCons (mC (.int 7)) mNil) σ h = .ok (.lv [.int 7]) h := by
    simp only [sSeq, sIf, sExpr, sRet, sSet, sNil, sPass, mNot, mAnd, mOr, mTru, mN, mCons, mNil, m1, m2, m3c, mVar, mC, mB, isB, isTru, List.getElem?_cons_zero, List.getElem?_cons_succ, List.set_cons_zero, List.set_cons_succ, bindR_ok, bindS_ok, Option.isSome_some, Option.isSome_none, Bool.and_self, Bool.not_true, Bool.not_false, Bool.false_eq_true, if_true, if_false, mInC, mNotInC, List.cons_append, List.nil_append, mkLv, List.length_cons, List.length_nil, SZ1]
  exact if_or_no (mB_ok (m2_ok c1 (var_ok v11) n4)) (mB_ok (m2_ok c2 (m2_ok c4 c3 mu3') n5))
theorem look_i (O : Own ix s h P) (hq : ix .st = q) {np : Nat} {sp : List Spt} {f to : Int} {rest : List (Int × Int)} {i : Nat} {v4 v7 : MV} {due : List Dd} {z10 z11 : Option MV} {s1 : Sto} {x d : Dd}
    (sz : s.size = 16) (f0 : 0 ≤ f) (f1 : f < 16) (t0 : 0 ≤ to) (t1 : to < 16) (lsp : sp.length ≤ 4) (lr : rest.length ≤ 1) (li : i ≤ 10) (L : looksP s f to sp rest i = true) (st : stepO s f = some (s1, x)) (xd : eqvD x d = true) (dd : depD d ≤ 1) (du : due[i]? = some d) :
    ∃ ix' h' y10 y11, lb_law_right_0 (sigR np q sp f v4 to rest v7 due (some (.int (i : Int))) z10 z11) h = .nx (sigR np q sp f v4 to rest v7 due (some (.int (i : Int))) (some y10) (some y11)) h' ∧ Own ix' s1 h' P ∧ ix' .st = q := by
  have E := O.E
  unfold looksP at L
  simp only [Bool.and_eq_true] at L
  obtain ⟨W, nd, L1, K2, L3, ⟨L4, L5⟩, L6⟩ := L
  have L4' : ((freeP s).any fun g => decide (g = to)) = false := by simpa using L4
  obtain ⟨ix1, h1, c1, O1, q1⟩ := step_o O st
  rw [hq] at c1 q1
  have y1 := lk1 (h := h) (np := np) (q := q) (sp := sp) (f := f) (to := to) (rest := rest) (i := i) (v4 := v4) (v7 := v7) (due := due) (z10 := z10) (z11 := z11)
  have y2 := lk2 (np := np) (sp := sp) (f := f) (to := to) (rest := rest) (i := i) (v4 := v4) (v7 := v7) (due := due) (z10 := z10) (z11 := z11) E W hq sz f0 f1 t0 t1 lsp lr li nd L1 K2
  have y3 := lk3 (np := np) (sp := sp) (f := f) (to := to) (rest := rest) (i := i) (v4 := v4) (v7 := v7) (due := due) (z10 := z10) (z11 := z11) E W hq sz f0 f1 t0 t1 lsp lr li L3 L4'
  have y4 := lk4 (h := h) (s := s) (q := q) (np := np) (sp := sp) (f := f) (to := to) (rest := rest) (i := i) (v4 := v4) (v7 := v7) (due := due) (z10 := z10) (z11 := z11) sz f0 f1 t0 t1 lsp lr li
  cases ee : entsP s sp with
  | none => rw [ee] at L5; cases L5
  | some es =>
    rw [ee] at L5
    have L5 : eqvD (.li es) (.li (List.replicate (i - 1) (rowD .small to) ++ List.replicate (sp.length - (i - 1)) (rowD .moving f))) = true := L5
    cases ex : readL s sp with
    | none => rw [ex] at L6; cases L6
    | some xs =>
      rw [ex] at L6
      have L6 : eqvD (.li (xs.map .int)) (.li (List.replicate sp.length (.int 7))) = true := L6
      have dr : depD (.li (List.replicate (i - 1) (rowD .small to) ++ List.replicate (sp.length - (i - 1)) (rowD .moving f))) < 12 := by
        rw [depD, dep_app]
        have := dep_rep (rowD .small to) (i - 1)
        have := dep_rep (rowD .moving f) (sp.length - (i - 1))
        have : depD (rowD .small to) = 1 := rfl
        have : depD (rowD .moving f) = 1 := rfl
        omega
      have y5 := lk5 (np := np) (sp := sp) (f := f) (to := to) (rest := rest) (i := i) (v4 := v4) (v7 := v7) (due := due) (z10 := z10) (z11 := z11) E W hq sz f0 f1 t0 t1 lsp lr li dr ee L5 ex L6
      have n6 := neB_dd (x := x) (y := d) (by have := dep_step st; omega) (by omega) h1
      rw [xd] at n6
      have i8 : mIxA (.lv (ddMs due)) (.int (i : Int)) h1 = .ok (ddM d) h1 := by
        have hl : i < (ddMs due).length := by
          rw [ddMs_map, List.length_map]; exact (List.getElem?_eq_some_iff.mp du).1
        unfold mIxA isDk asD mIx asS atI
        simp only [Option.isSome_none, Bool.false_eq_true, if_false, L2.ixN]
        rw [if_pos (by omega), if_pos (by omega)]
        simp only [Option.bind_some]
        rw [show ((i : Int)).toNat = i by omega, ddMs_map, List.getElem?_map, du]
        rfl
      have y6 : sIf (mB (m2 mNeB (mMethC 0 (Str.ofString "step") (mVar 1) (mCons (mVar 3) mNil) fun v as h => cN 2 m_Store_step (v :: (as ++ [])) h) (m2 mIxA (mVar 8) (mVar 9))))
          (sRet (mC (.bl false))) sNil (sigR np q sp f v4 to rest v7 due (some (.int (i : Int))) (some (.int ((i - 1 : Nat) : Int))) (some (.lv (ddMs (List.replicate (i - 1) (rowD .small to) ++ List.replicate (sp.length - (i - 1)) (rowD .moving f)))))) h = .nx (sigR np q sp f v4 to rest v7 due (some (.int (i : Int))) (some (.int ((i - 1 : Nat) : Int))) (some (.lv (ddMs (List.replicate (i - 1) (rowD .small to) ++ List.replicate (sp.length - (i - 1)) (rowD .moving f)))))) h1 := by
        unfold sigR
        simp only [sSeq, sIf, sExpr, sRet, sSet, sNil, sPass, mNot, mAnd, mOr, mTru, mN, mCons, mNil, m1, m2, m3c, mVar, mC, mB, isB, isTru, List.getElem?_cons_zero, List.getElem?_cons_succ, List.set_cons_zero, List.set_cons_succ, bindR_ok, bindS_ok, Option.isSome_some, Option.isSome_none, Bool.and_self, Bool.not_true, Bool.not_false, Bool.false_eq_true, if_true, if_false, mInC, mNotInC, List.cons_append, List.nil_append, methQ E hq (mn := Str.ofString "step") rfl, c1, i8, n6]
      exact ⟨ix1, h1, _, _, (seq_nx y1).trans ((seq_nx y2).trans ((seq_nx y3).trans ((seq_nx y4).trans ((seq_nx y5).trans y6)))), O1, q1⟩
end
end MP
namespace MP
open PySem PySem.Spec PyProof.Rows L2
section
variable {P : List (Nat × MO)} {q : Nat}
theorem go_go {np : Nat} {sp : List Spt} {f to : Int} {rest : List (Int × Int)} {v4 v7 : MV} {due : List Dd} (f0 : 0 ≤ f) (f1 : f < 16) (t0 : 0 ≤ to) (t1 : to < 16) (lsp : sp.length ≤ 4) (lr : rest.length ≤ 1) (ld : due.length ≤ 10) (dd : ∀ d ∈ due, depD d ≤ 1) :
    ∀ (r : List Dd) (i : Nat) (s s' : Sto) (h : MH) (ix : Ro → Nat) (z9 z10 z11 : Option MV), Own ix s h P → ix .st = q → due.drop i = r → goP f to sp rest r i s = some s' →
    ∃ ix' h' y9 y10 y11, forGo (fun _ => true) (gmName 9) lb_law_right_0 (rgF i r.length) (sigR np q sp f v4 to rest v7 due z9 z10 z11) h = .nx (sigR np q sp f v4 to rest v7 due y9 y10 y11) h' ∧ Own ix' s' h' P ∧ ix' .st = q
  | [], i, s, s', h, ix, z9, z10, z11, O, hq, hd, e => by
    cases e
    exact ⟨ix, h, z9, z10, z11, rfl, O, hq⟩
  | d :: r, i, s, s', h, ix, z9, z10, z11, O, hq, hd, e => by
    unfold goP at e
    by_cases L : (decide (s.size = 16) && looksP s f to sp rest i) = true
    · rw [if_pos L] at e
      rw [Bool.and_eq_true, decide_eq_true_eq] at L
      cases es : stepO s f with
      | none => simp only [es] at e; cases e
      | some sx =>
        obtain ⟨s1, x⟩ := sx
        simp only [es] at e
        by_cases xd : eqvD x d = true
        · rw [if_pos xd] at e
          have du : due[i]? = some d := by
            have : (due.drop i)[0]? = some d := by rw [hd]; rfl
            rw [List.getElem?_drop] at this
            simpa using this
          have li : i < due.length := (List.getElem?_eq_some_iff.mp du).1
          have hd' : due.drop (i + 1) = r := by
            rw [← List.tail_drop, hd]; rfl
          have dm : depD d ≤ 1 := dd d (List.mem_of_getElem? du)
          obtain ⟨ix1, h1, y10, y11, b, O1, q1⟩ := look_i (np := np) (v4 := v4) (v7 := v7) (z10 := z10) (z11 := z11) O hq L.1 f0 f1 t0 t1 lsp lr (show i ≤ 10 by omega) L.2 es xd dm du
          obtain ⟨ix', h', y9, y10', y11', go, O', q'⟩ := go_go f0 f1 t0 t1 lsp lr ld dd r (i + 1) s1 s' h1 ix1 (some (.int (i : Int))) (some y10) (some y11) O1 q1 hd' e
          refine ⟨ix', h', y9, y10', y11', ?_, O', q'⟩
          show forGo _ _ _ (MV.int (i : Int) :: rgF (i + 1) r.length) _ _ = _
          have g : gmName 9 (MV.int (i : Int)) (sigR np q sp f v4 to rest v7 due z9 z10 z11) h = .ok (sigR np q sp f v4 to rest v7 due (some (.int (i : Int))) z10 z11) h := rfl
          rw [forGo, if_pos rfl, g]
          simp only [b]
          exact go
        · rw [if_neg xd] at e; cases e
    · rw [if_neg L] at e; cases e
theorem dep_due {sp : List Spt} : ∀ d ∈ dueP sp, depD d ≤ 1 := fun d m => by
  unfold dueP at m
  rcases List.mem_append.mp m with m | m
  · rcases List.mem_cons.mp m with m | m
    · rw [m]; exact Nat.le_refl _
    · obtain ⟨p, _, rfl⟩ := List.mem_map.mp m
      exact Nat.le_refl _
  · rcases List.mem_cons.mp m with m | m
    · rw [m]; exact Nat.le_refl _
    · cases m
theorem others_go {ix : Ro → Nat} {s : Sto} {h : MH} (E : Enc ix s h) (W : wsB s = true) (hq : ix .st = q) (sz : s.size = 16) (v0 v2 v4 v6 v7 v8 v9 v10 v11 v13 : Option MV) (f to : Int) :
    mLc (fun σ h => bindR ((mCons (mC (.int 16)) mNil) σ h) itR1) (.nm 12) lt_law_right_0 le_law_right_0 [12] finV [v0, some (.ref q), v2, some (.int f), v4, some (.int to), v6, v7, v8, v9, v10, v11, none, v13] h = .ok (.lv (ddMs (othersP s f to))) h := by
  have go : lcGo (fun _ => true) (.nm 12) lt_law_right_0 le_law_right_0 ((rngI 16).map .int) (clrL [12] [v0, some (.ref q), v2, some (.int f), v4, some (.int to), v6, v7, v8, v9, v10, v11, none, v13]) h =
      .ok (((rngI 16).filter fun g => !(decide (f = g) || decide (to = g))).map fun g => ddM (whD s g)) h := by
    refine lcGo_map rfl fun g hg => ?_
    obtain ⟨g0, g1⟩ := rng_mem.mp hg
    refine ⟨[v0, some (.ref q), v2, some (.int f), v4, some (.int to), v6, v7, v8, v9, v10, v11, some (.int g), v13], rfl, ?_, fun _ => ?_⟩
    · have ni := inD_dd true (x := .int g) (l := [.int f, .int to]) (by show 0 < 12; decide) (by show 1 + max 0 (max 0 0) < 12; decide) h
      have ni' : mInCX true (.int g) (.lv [.int f, .int to]) h = .ok (.bl (!(decide (f = g) || decide (to = g)))) h := by
        refine ni.trans ?_
        rw [if_pos rfl]
        simp only [List.any_cons, List.any_nil, Bool.or_false, eqvD]
      unfold lt_law_right_0
      simp only [sSeq, sIf, sExpr, sRet, sSet, sNil, sPass, mNot, mAnd, mOr, mTru, mN, mCons, mNil, m1, m2, m3c, mVar, mC, mB, isB, isTru, List.getElem?_cons_zero, List.getElem?_cons_succ, List.set_cons_zero, List.set_cons_succ, bindR_ok, bindS_ok, Option.isSome_some, Option.isSome_none, Bool.and_self, Bool.not_true, Bool.not_false, Bool.false_eq_true, if_true, if_false, mInC, mNotInC, List.cons_append, List.nil_append, mkLv, List.length_cons, List.length_nil, show (0 + 1 + 1 ≤ SZ) = True from eq_true (by decide), ni']
    · have w := what_neB E W hq g0 (by omega)
      unfold le_law_right_0
      simp only [sSeq, sIf, sExpr, sRet, sSet, sNil, sPass, mNot, mAnd, mOr, mTru, mN, mCons, mNil, m1, m2, m3c, mVar, mC, mB, isB, isTru, List.getElem?_cons_zero, List.getElem?_cons_succ, List.set_cons_zero, List.set_cons_succ, bindR_ok, bindS_ok, Option.isSome_some, Option.isSome_none, Bool.and_self, Bool.not_true, Bool.not_false, Bool.false_eq_true, if_true, if_false, mInC, mNotInC, List.cons_append, List.nil_append, methQ E hq (mn := Str.ofString "what") rfl, w]
  have rg : itR1 [.int 16] h = .ok ((rngI 16).map .int, fun _ => true) h := by
    have b : inB 16 = true := inB_of (by decide) (by decide)
    show (if inB 16 = true then R.ok (rgM 0 1 (16 : Int).toNat, fun _ => true) h else R.bad) = _
    rw [if_pos b, rg_rng]
  have ln : ((rngI 16).map MV.int).length ≤ SZ := by rw [List.length_map, rng_len]; decide
  unfold mLc
  simp only [sSeq, sIf, sExpr, sRet, sSet, sNil, sPass, mNot, mAnd, mOr, mTru, mN, mCons, mNil, m1, m2, m3c, mVar, mC, mB, isB, isTru, List.getElem?_cons_zero, List.getElem?_cons_succ, List.set_cons_zero, List.set_cons_succ, bindR_ok, bindS_ok, Option.isSome_some, Option.isSome_none, Bool.and_self, Bool.not_true, Bool.not_false, Bool.false_eq_true, if_true, if_false, mInC, mNotInC, List.cons_append, List.nil_append, rg, if_pos ln, go, finV]
  unfold othersP
  rw [ddMs_map, List.map_map]
  rfl
theorem dep_others (s : Sto) (f to : Int) : depDs (othersP s f to) ≤ 3 := by
  unfold othersP
  exact depDs_map (fun g => dep_wh s g) _
/-- the end's looks -/
theorem end_i {ix : Ro → Nat} {s : Sto} {h : MH} (E : Enc ix s h) (hq : ix .st = q) {np : Nat} {sp : List Spt} {f to : Int} {rest : List (Int × Int)} {v4 : MV} {due : List Dd} {z9 z10 z11 : Option MV} {s1 : Sto}
    (sz : s.size = 16) (f0 : 0 ≤ f) (f1 : f < 16) (t0 : 0 ≤ to) (t1 : to < 16) (lsp : sp.length ≤ 4) (L : endP s f to sp rest = true) (Lo : eqvD (.li (othersP s f to)) (.li (othersP s1 f to)) = true) :
    sSeq (sIf (mOr (mB (m2 mNeB (mMethC 0 (Str.ofString "moves") (mVar 1) mNil fun v as h => cF 1 m_Store_moves (v :: (as ++ [])) h) (mVar 6))) (mOr (mB (m2 mNeB (mMethC 0 (Str.ofString "what") (mVar 1) (mCons (mVar 3) mNil) fun v as h => cF 2 m_Store_what (v :: (as ++ [])) h) (mN mkTup (mCons (mC (.str (Str.ofString "free"))) mNil)))) (mB (m2 mNeB (mMethC 0 (Str.ofString "what") (mVar 1) (mCons (mVar 5) mNil) fun v as h => cF 2 m_Store_what (v :: (as ++ [])) h) (mN mkTup (mCons (mC (.str (Str.ofString "tenants"))) (mCons (mC (.int 7)) (mCons (m1 mTup1 (mVar 2)) mNil))))))))
  (sRet (mC (.bl false)))
  sNil)
  (sSeq (sIf (mB (m2 mNeB (mN (cF 2 m_law_entries) (mCons (mVar 1) (mCons (mVar 2) mNil))) (m2 (mMul finV) (mN mkLv (mCons (mN mkTup (mCons (mC (.str (Str.ofString "small"))) (mCons (mVar 5) (mCons (mC (.str (Str.ofString "write"))) mNil)))) mNil)) (mN mLenC (mCons (mVar 2) mNil)))))
  (sRet (mC (.bl false)))
  sNil)
  (sRet (m2 mEqB (mLc (fun σ h => bindR ((mCons (mC (.int 16)) mNil) σ h) itR1) (.nm 12) lt_law_right_0 le_law_right_0 [12] finV) (mVar 7)))) (sigR np q sp f v4 to rest (.lv (ddMs (othersP s1 f to))) due z9 z10 z11) h = .rt (.bl true) h := by
  unfold endP at L
  simp only [Bool.and_eq_true] at L
  obtain ⟨W, K1, K2, K3, K4⟩ := L
  have SZ3 : (0 + 1 + 1 + 1 ≤ SZ) = True := eq_true (by decide)
  have SZ1 : (0 + 1 ≤ SZ) = True := eq_true (by decide)
  have mv : cF 1 m_Store_moves [.ref q] h = .ok (.lv (ddMs (mvsP s))) h := by subst hq; exact movesF E
  have wt := what_neB E W hq t0 (by omega)
  have wf := what_neB E W hq f0 (by omega)
  have n1 := neB_dd (x := .li (mvsP s)) (y := .li (restM rest)) (by rw [depD]; have := dep_mvs s; omega) (by rw [depD]; have := depDs_map (g := fun p : Int × Int => mvtD (p.1, p.2, true, 0)) (n := 1) (fun p => Nat.le_refl _) rest; unfold restM; omega) h
  rw [show eqvD (.li (mvsP s)) (.li (restM rest)) = true from K1, ddM, ddM] at n1
  have n2 := neB_dd (x := whD s f) (y := frD) (by have := dep_wh s f; omega) (by decide) h
  rw [K2] at n2
  have n2' : mNeB (ddM (whD s f)) (.tup [.str (Str.ofString "free")]) h = .ok (.bl (!true)) h := n2
  have n3 := neB_dd (x := whD s to) (y := tenD sp) (by have := dep_wh s to; omega) (by have := dep_ten sp; omega) h
  rw [K3] at n3
  have n3' : mNeB (ddM (whD s to)) (.tup [.str (Str.ofString "tenants"), .int 7, .tup (sp.map kS)]) h = .ok (.bl (!true)) h := by
    rw [← ddM_sps]; exact n3
  cases ee : entsP s sp with
  | none => rw [ee] at K4; cases K4
  | some es =>
    rw [ee] at K4
    have K4 : eqvD (.li es) (.li (List.replicate sp.length (rowD .small to))) = true := K4
    have en := entries_i E hq (by omega) ee
    have mu := mul_rep (rowD .small to) (k := (sp.length : Int)) (by omega) (by omega) h
    have mu' : mMul finV (.lv [.tup [.str (Str.ofString "small"), .int to, .str (Str.ofString "write")]]) (.int (sp.length : Int)) h = .ok (.lv (ddMs (List.replicate sp.length (rowD .small to)))) h := by
      rw [show ((sp.length : Int)).toNat = sp.length by omega] at mu; exact mu
    have n4 := neB_dd (x := .li es) (y := .li (List.replicate sp.length (rowD .small to))) (by rw [depD]; have := dep_ents s sp es ee; omega) (by rw [depD]; have := dep_rep (rowD .small to) sp.length; have : depD (rowD .small to) = 1 := rfl; omega) h
    rw [K4, ddM, ddM] at n4
    have lsm : mLenC [.lv (sp.map kS)] h = .ok (.int (sp.length : Int)) h := by
      show R.ok (MV.int ((sp.map kS).length : Nat)) h = _
      rw [List.length_map]
    have n5 := eqB_dd (x := .li (othersP s f to)) (y := .li (othersP s1 f to)) (by rw [depD]; have := dep_others s f to; omega) (by rw [depD]; have := dep_others s1 f to; omega) h
    rw [Lo, ddM, ddM] at n5
    have oth := others_go E W hq sz (some (.ref np)) (some (.lv (sp.map kS))) (some v4) (some (.lv (ddMs (restM rest)))) (some (.lv (ddMs (othersP s1 f to)))) (some (.lv (ddMs due))) z9 z10 z11 none f to
    have y1 : sIf (mOr (mB (m2 mNeB (mMethC 0 (Str.ofString "moves") (mVar 1) mNil fun v as h => cF 1 m_Store_moves (v :: (as ++ [])) h) (mVar 6))) (mOr (mB (m2 mNeB (mMethC 0 (Str.ofString "what") (mVar 1) (mCons (mVar 3) mNil) fun v as h => cF 2 m_Store_what (v :: (as ++ [])) h) (mN mkTup (mCons (mC (.str (Str.ofString "free"))) mNil)))) (mB (m2 mNeB (mMethC 0 (Str.ofString "what") (mVar 1) (mCons (mVar 5) mNil) fun v as h => cF 2 m_Store_what (v :: (as ++ [])) h) (mN mkTup (mCons (mC (.str (Str.ofString "tenants"))) (mCons (mC (.int 7)) (mCons (m1 mTup1 (mVar 2)) mNil))))))))
        (sRet (mC (.bl false))) sNil (sigR np q sp f v4 to rest (.lv (ddMs (othersP s1 f to))) due z9 z10 z11) h = .nx (sigR np q sp f v4 to rest (.lv (ddMs (othersP s1 f to))) due z9 z10 z11) h := by
      unfold sigR
      simp only [sSeq, sIf, sExpr, sRet, sSet, sNil, sPass, mNot, mAnd, mOr, mTru, mN, mCons, mNil, m1, m2, m3c, mVar, mC, mB, isB, isTru, List.getElem?_cons_zero, List.getElem?_cons_succ, List.set_cons_zero, List.set_cons_succ, bindR_ok, bindS_ok, Option.isSome_some, Option.isSome_none, Bool.and_self, Bool.not_true, Bool.not_false, Bool.false_eq_true, if_true, if_false, mInC, mNotInC, List.cons_append, List.nil_append, methQ E hq (mn := Str.ofString "moves") rfl, mv, n1, methQ E hq (mn := Str.ofString "what") rfl, wf, wt, mkTup, List.length_cons, List.length_nil, SZ1, SZ3, n2', tup1_lv, n3']
    have c1 : mN (cF 2 m_law_entries) (mCons (mVar 1) (mCons (mVar 2) mNil)) (sigR np q sp f v4 to rest (.lv (ddMs (othersP s1 f to))) due z9 z10 z11) h = .ok (.lv (ddMs es)) h := by
      unfold sigR
      simp only [sSeq, sIf, sExpr, sRet, sSet, sNil, sPass, mNot, mAnd, mOr, mTru, mN, mCons, mNil, m1, m2, m3c, mVar, mC, mB, isB, isTru, List.getElem?_cons_zero, List.getElem?_cons_succ, List.set_cons_zero, List.set_cons_succ, bindR_ok, bindS_ok, Option.isSome_some, Option.isSome_none, Bool.and_self, Bool.not_true, Bool.not_false, Bool.false_eq_true, if_true, if_false, mInC, mNotInC, List.cons_append, List.nil_append, en]
    have c2 : mN mkLv (mCons (mN mkTup (mCons (mC (.str (Str.ofString "small"))) (mCons (mVar 5) (mCons (mC (.str (Str.ofString "write"))) mNil)))) mNil) (sigR np q sp f v4 to rest (.lv (ddMs (othersP s1 f to))) due z9 z10 z11) h = .ok (.lv [.tup [.str (Str.ofString "small"), .int to, .str (Str.ofString "write")]]) h := by
      unfold sigR
      simp only [sSeq, sIf, sExpr, sRet, sSet, sNil, sPass, mNot, mAnd, mOr, mTru, mN, mCons, mNil, m1, m2, m3c, mVar, mC, mB, isB, isTru, List.getElem?_cons_zero, List.getElem?_cons_succ, List.set_cons_zero, List.set_cons_succ, bindR_ok, bindS_ok, Option.isSome_some, Option.isSome_none, Bool.and_self, Bool.not_true, Bool.not_false, Bool.false_eq_true, if_true, if_false, mInC, mNotInC, List.cons_append, List.nil_append, mkTup, mkLv, List.length_cons, List.length_nil, SZ3, SZ1]
    have c3 : mN mLenC (mCons (mVar 2) mNil) (sigR np q sp f v4 to rest (.lv (ddMs (othersP s1 f to))) due z9 z10 z11) h = .ok (.int (sp.length : Int)) h := by
      unfold sigR
      simp only [sSeq, sIf, sExpr, sRet, sSet, sNil, sPass, mNot, mAnd, mOr, mTru, mN, mCons, mNil, m1, m2, m3c, mVar, mC, mB, isB, isTru, List.getElem?_cons_zero, List.getElem?_cons_succ, List.set_cons_zero, List.set_cons_succ, bindR_ok, bindS_ok, Option.isSome_some, Option.isSome_none, Bool.and_self, Bool.not_true, Bool.not_false, Bool.false_eq_true, if_true, if_false, mInC, mNotInC, List.cons_append, List.nil_append, lsm]
    have y2 := if_no (a := sRet (mC (.bl false))) (mB_ok (m2_ok c1 (m2_ok c2 c3 mu') n4))
    have y3 : sRet (m2 mEqB (mLc (fun σ h => bindR ((mCons (mC (.int 16)) mNil) σ h) itR1) (.nm 12) lt_law_right_0 le_law_right_0 [12] finV) (mVar 7)) (sigR np q sp f v4 to rest (.lv (ddMs (othersP s1 f to))) due z9 z10 z11) h = .rt (.bl true) h := by
      have := m2_ok (ra := mLc (fun σ h => bindR ((mCons (mC (.int 16)) mNil) σ h) itR1) (.nm 12) lt_law_right_0 le_law_right_0 [12] finV) (rb := mVar 7) (σ := sigR np q sp f v4 to rest (.lv (ddMs (othersP s1 f to))) due z9 z10 z11) oth (var_ok rfl) n5
      show bindS (m2 _ _ _ _ _) _ _ = _
      rw [this]
      rfl
    exact (seq_nx y1).trans ((seq_nx y2).trans y3)
end
end MP
namespace MP
open PySem PySem.Spec PyProof.Rows L2
theorem for_rg {re : EM} {g : GM} {body : SM} {σ : Lo} {h h1 : MH} {d : Int} (e : re σ h = .ok (.int d) h1) (d0 : 0 ≤ d) (d1 : d < 1000) : sFor (fun σ h => bindR ((mCons re mNil) σ h) itR1) g body σ h = forGo (fun _ => true) g body (rgF 0 d.toNat) σ h1 := by
  have e2 : (mCons re mNil) σ h = .ok [.int d] h1 := by
    show bindR (re σ h) _ = _
    rw [e]; rfl
  show bindS (bindR ((mCons re mNil) σ h) itR1) σ _ = _
  rw [e2, bindR_ok, rg1 d0 d1, bindS_ok]
theorem mN1_ok {f : List MV → MH → R MV} {re : EM} {σ : Lo} {h h1 h2 : MH} {v x : MV} (e : re σ h = .ok v h1) (e2 : f [v] h1 = .ok x h2) : mN f (mCons re mNil) σ h = .ok x h2 := by
  have e3 : (mCons re mNil) σ h = .ok [v] h1 := by
    show bindR (re σ h) _ = _
    rw [e]; rfl
  show bindR ((mCons re mNil) σ h) f = _
  rw [e3, bindR_ok, e2]
theorem len_ints (l : List Int) (h : MH) : mLenC [.lv (l.map .int)] h = .ok (.int (l.length : Int)) h := by
  show R.ok (MV.int ((l.map MV.int).length : Nat)) h = _
  rw [List.length_map]
theorem at_ints {l : List Int} {t : Int} {x : Int} (t0 : 0 ≤ t) (t1 : t < l.length) (e : l[t.toNat]? = some x) (h : MH) : mIxA (.lv (l.map .int)) (.int t) h = .ok (.int x) h := by
  unfold mIxA isDk asD mIx asS atI
  simp only [Option.isSome_none, Bool.false_eq_true, if_false, L2.ixN, List.length_map]
  rw [if_pos t0, if_pos t1]
  simp only [Option.bind_some, List.getElem?_map, e, Option.map_some]
theorem due_i {sp : List Spt} (ln : sp.length ≤ 4) (σ : Lo) (h : MH) (v2 : σ[2]? = some (some (.lv (sp.map kS)))) (s13 : 13 < σ.length) (n13 : σ[13]? = some none) : m2 (mAdd finV) (m2 (mAdd finV) (mN mkLv (mCons (mN mkTup (mCons (mC (.str (Str.ofString "copied"))) mNil)) mNil)) (mLc (iL (mVar 2)) (.nm 13) mYes le_law_right_2 [13] finV)) (mN mkLv (mCons (mN mkTup (mCons (mC (.str (Str.ofString "done"))) mNil)) mNil)) σ h =
    .ok (.lv (ddMs (dueP sp))) h := by
  have SZ1 : (0 + 1 ≤ SZ) = True := eq_true (by decide)
  have l1 : (sp.map kS).length ≤ SZ := by rw [List.length_map]; exact Nat.le_trans (show _ ≤ 1000 by omega) (by decide)
  have c1 : mN mkLv (mCons (mN mkTup (mCons (mC (.str (Str.ofString "copied"))) mNil)) mNil) σ h = .ok (.lv (ddMs [.tup [.st .copied]])) h := by
    simp only [sSeq, sIf, sExpr, sRet, sSet, sNil, sPass, mNot, mAnd, mOr, mTru, mN, mCons, mNil, m1, m2, m3c, mVar, mC, mB, isB, isTru, List.getElem?_cons_zero, List.getElem?_cons_succ, List.set_cons_zero, List.set_cons_succ, bindR_ok, bindS_ok, Option.isSome_some, Option.isSome_none, Bool.and_self, Bool.not_true, Bool.not_false, Bool.false_eq_true, if_true, if_false, mInC, mNotInC, List.cons_append, List.nil_append, mkTup, mkLv, List.length_cons, List.length_nil, SZ1]
    rfl
  have c3 : mN mkLv (mCons (mN mkTup (mCons (mC (.str (Str.ofString "done"))) mNil)) mNil) σ h = .ok (.lv (ddMs [.tup [.st .done]])) h := by
    simp only [sSeq, sIf, sExpr, sRet, sSet, sNil, sPass, mNot, mAnd, mOr, mTru, mN, mCons, mNil, m1, m2, m3c, mVar, mC, mB, isB, isTru, List.getElem?_cons_zero, List.getElem?_cons_succ, List.set_cons_zero, List.set_cons_succ, bindR_ok, bindS_ok, Option.isSome_some, Option.isSome_none, Bool.and_self, Bool.not_true, Bool.not_false, Bool.false_eq_true, if_true, if_false, mInC, mNotInC, List.cons_append, List.nil_append, mkTup, mkLv, List.length_cons, List.length_nil, SZ1]
    rfl
  have go : lcGo (fun _ => true) (.nm 13) mYes le_law_right_2 (sp.map kS) (clrL [13] σ) h = .ok (sp.map fun p => ddM (.tup [.st .right, .st (.w p.1), .int p.2])) h := by
    refine lcGo_all rfl fun p _ => ⟨(clrL [13] σ).set 13 (some (kS p)), rfl, ?_⟩
    have g : ((clrL [13] σ).set 13 (some (kS p)))[13]? = some (some (kS p)) := by
      rw [List.getElem?_set_self]
      show 13 < (σ.set 13 none).length
      rw [List.length_set]; exact s13
    have ad : mAdd finV (.tup [.str (Str.ofString "right")]) (kS p) h = .ok (ddM (.tup [.st .right, .st (.w p.1), .int p.2])) h := rfl
    unfold le_law_right_2
    simp only [sSeq, sIf, sExpr, sRet, sSet, sNil, sPass, mNot, mAnd, mOr, mTru, mN, mCons, mNil, m1, m2, m3c, mVar, mC, mB, isB, isTru, List.getElem?_cons_zero, List.getElem?_cons_succ, List.set_cons_zero, List.set_cons_succ, bindR_ok, bindS_ok, Option.isSome_some, Option.isSome_none, Bool.and_self, Bool.not_true, Bool.not_false, Bool.false_eq_true, if_true, if_false, mInC, mNotInC, List.cons_append, List.nil_append, g, mkTup, List.length_cons, List.length_nil, SZ1, ad]
  have c2 : mLc (iL (mVar 2)) (.nm 13) mYes le_law_right_2 [13] finV σ h = .ok (.lv (ddMs (sp.map fun p => Dd.tup [.st .right, .st (.w p.1), .int p.2]))) h := by
    simp only [sSeq, sIf, sExpr, sRet, sSet, sNil, sPass, mNot, mAnd, mOr, mTru, mN, mCons, mNil, m1, m2, m3c, mVar, mC, mB, isB, isTru, List.getElem?_cons_zero, List.getElem?_cons_succ, List.set_cons_zero, List.set_cons_succ, bindR_ok, bindS_ok, Option.isSome_some, Option.isSome_none, Bool.and_self, Bool.not_true, Bool.not_false, Bool.false_eq_true, if_true, if_false, mInC, mNotInC, List.cons_append, List.nil_append, mLc, iL, v2, itL, if_pos l1, go, finV]
    rw [ddMs_map, List.map_map]
    rfl
  refine m2_ok (m2_ok c1 c2 (add_li (by rw [List.length_map]; show 1 + _ ≤ _; omega) h)) c3 ?_
  exact add_li (a := [.tup [.st .copied]] ++ sp.map fun p => Dd.tup [.st .right, .st (.w p.1), .int p.2]) (b := [.tup [.st .done]]) (by rw [List.length_append, List.length_map]; show 1 + _ + 1 ≤ _; omega) h
theorem due_len (sp : List Spt) : (dueP sp).length = sp.length + 2 := by
  unfold dueP
  rw [List.length_append, List.length_cons, List.length_map]; rfl
noncomputable def tP (p : Int × Int) : Nat := (drw (mpP p) (lenP (mdP p) (mbP p) : Int)).1.toNat
theorem right_i {np : Nat} {p : Int × Int} {h : MH} (e : h[np]? = some (poolO p)) (hl : 0 < lenP (mdP p) (mbP p)) (hr : rightP (mdP p) (mbP p) (tP p) = true) : ∃ h' p', m_law_right [.ref np] h = .ok (.bl true) h' ∧ h'[np]? = some (poolO p') := by
  unfold rightP at hr
  cases em : madeP (mdP p) (mbP p) with
  | none => rw [em] at hr; cases hr
  | some ss =>
    obtain ⟨s, sp0⟩ := ss
    rw [em] at hr
    simp only at hr
    have hlen : lenP (mdP p) (mbP p) = (freeP s).length := by unfold lenP; rw [em]
    obtain ⟨ix, h1, nl, nn, c1, O1, l4⟩ := made_i e em
    generalize hq : ix .st = q at c1
    cases ed : tabO s 0 0 with
    | none => simp only [ed] at hr; cases hr
    | some dd =>
      simp only [ed] at hr
      cases ef : frmO dd with
      | none => simp only [ef] at hr; cases hr
      | some f =>
        simp only [ef] at hr
        cases et : (freeP s)[tP p]? with
        | none => simp only [et] at hr; cases hr
        | some to =>
          simp only [et] at hr
          cases eb : besideP s to with
          | none => simp only [eb] at hr; cases hr
          | some sr =>
            obtain ⟨s1, rest⟩ := sr
            simp only [eb] at hr
            cases eg : begO s1 f to with
            | none => simp only [eg] at hr; cases hr
            | some s2 =>
              simp only [eg] at hr
              cases eo : goP f to (isrt leS2 sp0) rest (dueP (isrt leS2 sp0)) 0 s2 with
              | none => simp only [eo] at hr; cases hr
              | some s3 =>
                simp only [eo, Bool.and_eq_true, decide_eq_true_eq] at hr
                obtain ⟨z0, z1, z3, f0, f1, t0, t1, lr, W0, W1, hend, hoth⟩ := hr
                have lsp : (isrt leS2 sp0).length ≤ 4 := by rw [(isrt_perm leS2 sp0).length_eq]; exact l4
                generalize hsp : isrt leS2 sp0 = sp at *
                -- the made store
                have x1 : sAsg (mN (cN 1 m_law_made) (mCons (mVar 0) mNil)) (gmTup (gmCons (gmName 1) (gmCons (gmName 2) gmNil)) 2) [some (.ref np), none, none, none, none, none, none, none, none, none, none, none, none, none] h =
                    .nx [some (.ref np), some (.ref q), some (.lv (sp.map kS)), none, none, none, none, none, none, none, none, none, none, none] h1 := by
                  have gm : gmTup (gmCons (gmName 1) (gmCons (gmName 2) gmNil)) 2 (.tup [.ref q, .lv (sp.map kS)]) [some (.ref np), none, none, none, none, none, none, none, none, none, none, none, none, none] h1 = .ok [some (.ref np), some (.ref q), some (.lv (sp.map kS)), none, none, none, none, none, none, none, none, none, none, none] h1 := rfl
                  simp only [sSeq, sIf, sExpr, sRet, sSet, sNil, sPass, mNot, mAnd, mOr, mTru, mN, mCons, mNil, m1, m2, m3c, mVar, mC, mB, isB, isTru, List.getElem?_cons_zero, List.getElem?_cons_succ, List.set_cons_zero, List.set_cons_succ, bindR_ok, bindS_ok, Option.isSome_some, Option.isSome_none, Bool.and_self, Bool.not_true, Bool.not_false, Bool.false_eq_true, if_true, if_false, mInC, mNotInC, List.cons_append, List.nil_append, sAsg, c1, gm]
                obtain ⟨t, ct, at0⟩ := tabO_i O1.E hq ed
                have x2 : sSet 3 (m2 mIxA (m2 mIxA (mMethC 0 (Str.ofString "table") (mVar 1) (mCons (mC (.str (Str.ofString "a"))) mNil) fun v as h => cF 2 m_Store_table (v :: (as ++ [])) h) (mC (.int 0))) (mC (.int 1))) [some (.ref np), some (.ref q), some (.lv (sp.map kS)), none, none, none, none, none, none, none, none, none, none, none] h1 =
                    .nx [some (.ref np), some (.ref q), some (.lv (sp.map kS)), some (.int f), none, none, none, none, none, none, none, none, none, none] h1 := by
                  simp only [sSeq, sIf, sExpr, sRet, sSet, sNil, sPass, mNot, mAnd, mOr, mTru, mN, mCons, mNil, m1, m2, m3c, mVar, mC, mB, isB, isTru, List.getElem?_cons_zero, List.getElem?_cons_succ, List.set_cons_zero, List.set_cons_succ, bindR_ok, bindS_ok, Option.isSome_some, Option.isSome_none, Bool.and_self, Bool.not_true, Bool.not_false, Bool.false_eq_true, if_true, if_false, mInC, mNotInC, List.cons_append, List.nil_append, wa, methQ O1.E hq (mn := Str.ofString "table") rfl, ct, ix_tabM at0, frm_ix ef]
                have fr : cF 1 m_Store_free [.ref q] h1 = .ok (.lv ((freeP s).map .int)) h1 := by subst hq; exact freeF O1.E W0
                have x3 : sSet 4 (mMethC 0 (Str.ofString "free") (mVar 1) mNil fun v as h => cF 1 m_Store_free (v :: (as ++ [])) h) [some (.ref np), some (.ref q), some (.lv (sp.map kS)), some (.int f), none, none, none, none, none, none, none, none, none, none] h1 =
                    .nx [some (.ref np), some (.ref q), some (.lv (sp.map kS)), some (.int f), some (.lv ((freeP s).map .int)), none, none, none, none, none, none, none, none, none] h1 := by
                  simp only [sSeq, sIf, sExpr, sRet, sSet, sNil, sPass, mNot, mAnd, mOr, mTru, mN, mCons, mNil, m1, m2, m3c, mVar, mC, mB, isB, isTru, List.getElem?_cons_zero, List.getElem?_cons_succ, List.set_cons_zero, List.set_cons_succ, bindR_ok, bindS_ok, Option.isSome_some, Option.isSome_none, Bool.and_self, Bool.not_true, Bool.not_false, Bool.false_eq_true, if_true, if_false, mInC, mNotInC, List.cons_append, List.nil_append, methQ O1.E hq (mn := Str.ofString "free") rfl, fr]
                -- the drawn one
                have fl := free_len O1.E
                have fm : (0 : Int) < ((freeP s).length : Int) := by omega
                have dr := draw_i (n := np) (m := ((freeP s).length : Int)) (O1.fr _ List.mem_cons_self) fm (by omega)
                obtain ⟨d0, d1⟩ := drw_lt (mpP p) fm
                have tt : (drw (mpP p) ((freeP s).length : Int)).1.toNat = tP p := by unfold tP; rw [hlen]
                have O2 := O1.forgA nn (poolO (drw (mpP p) ((freeP s).length : Int)).2)
                generalize (drw (mpP p) ((freeP s).length : Int)).2 = p2 at dr O2
                generalize h1.set np (poolO p2) = h2 at dr O2
                have x4 : sSet 5 (m2 mIxA (mVar 4) (mN (cF 2 m_law_draw) (mCons (mVar 0) (mCons (mN mLenC (mCons (mVar 4) mNil)) mNil)))) [some (.ref np), some (.ref q), some (.lv (sp.map kS)), some (.int f), some (.lv ((freeP s).map .int)), none, none, none, none, none, none, none, none, none] h1 =
                    .nx [some (.ref np), some (.ref q), some (.lv (sp.map kS)), some (.int f), some (.lv ((freeP s).map .int)), some (.int to), none, none, none, none, none, none, none, none] h2 := by
                  have ai := at_ints d0 d1 (by rw [tt]; exact et) h2
                  simp only [sSeq, sIf, sExpr, sRet, sSet, sNil, sPass, mNot, mAnd, mOr, mTru, mN, mCons, mNil, m1, m2, m3c, mVar, mC, mB, isB, isTru, List.getElem?_cons_zero, List.getElem?_cons_succ, List.set_cons_zero, List.set_cons_succ, bindR_ok, bindS_ok, Option.isSome_some, Option.isSome_none, Bool.and_self, Bool.not_true, Bool.not_false, Bool.false_eq_true, if_true, if_false, mInC, mNotInC, List.cons_append, List.nil_append, len_ints, dr, ai]
                obtain ⟨ix3, h3, c5, O3, q3⟩ := beside_i O2 W0 hq eb
                have x5 : sSet 6 (mN (cN 2 m_law_begun_beside) (mCons (mVar 1) (mCons (mVar 5) mNil))) [some (.ref np), some (.ref q), some (.lv (sp.map kS)), some (.int f), some (.lv ((freeP s).map .int)), some (.int to), none, none, none, none, none, none, none, none] h2 =
                    .nx [some (.ref np), some (.ref q), some (.lv (sp.map kS)), some (.int f), some (.lv ((freeP s).map .int)), some (.int to), some (.lv (ddMs (restM rest))), none, none, none, none, none, none, none] h3 := by
                  simp only [sSeq, sIf, sExpr, sRet, sSet, sNil, sPass, mNot, mAnd, mOr, mTru, mN, mCons, mNil, m1, m2, m3c, mVar, mC, mB, isB, isTru, List.getElem?_cons_zero, List.getElem?_cons_succ, List.set_cons_zero, List.set_cons_succ, bindR_ok, bindS_ok, Option.isSome_some, Option.isSome_none, Bool.and_self, Bool.not_true, Bool.not_false, Bool.false_eq_true, if_true, if_false, mInC, mNotInC, List.cons_append, List.nil_append, c5]
                have ot := others_go O3.E W1 q3 z1 (some (.ref np)) (some (.lv (sp.map kS))) (some (.lv ((freeP s).map .int))) (some (.lv (ddMs (restM rest)))) none none none none none none f to
                have x6 := set_ok (i := 7) ot
                obtain ⟨ix4, h4, c7, O4, q4⟩ := begin_o O3 eg
                rw [q3] at c7 q4
                have x7 : sExpr (mMethC 0 (Str.ofString "begin") (mVar 1) (mCons (mVar 3) (mCons (mVar 5) mNil)) fun v as h => cN 3 m_Store_begin (v :: (as ++ [])) h) [some (.ref np), some (.ref q), some (.lv (sp.map kS)), some (.int f), some (.lv ((freeP s).map .int)), some (.int to), some (.lv (ddMs (restM rest))), some (.lv (ddMs (othersP s1 f to))), none, none, none, none, none, none] h3 =
                    .nx [some (.ref np), some (.ref q), some (.lv (sp.map kS)), some (.int f), some (.lv ((freeP s).map .int)), some (.int to), some (.lv (ddMs (restM rest))), some (.lv (ddMs (othersP s1 f to))), none, none, none, none, none, none] h4 := by
                  simp only [sSeq, sIf, sExpr, sRet, sSet, sNil, sPass, mNot, mAnd, mOr, mTru, mN, mCons, mNil, m1, m2, m3c, mVar, mC, mB, isB, isTru, List.getElem?_cons_zero, List.getElem?_cons_succ, List.set_cons_zero, List.set_cons_succ, bindR_ok, bindS_ok, Option.isSome_some, Option.isSome_none, Bool.and_self, Bool.not_true, Bool.not_false, Bool.false_eq_true, if_true, if_false, mInC, mNotInC, List.cons_append, List.nil_append, methQ O3.E q3 (mn := Str.ofString "begin") rfl, c7]
                have x8 := set_ok (i := 8) (due_i lsp [some (.ref np), some (.ref q), some (.lv (sp.map kS)), some (.int f), some (.lv ((freeP s).map .int)), some (.int to), some (.lv (ddMs (restM rest))), some (.lv (ddMs (othersP s1 f to))), none, none, none, none, none, none] h4 rfl (by show 13 < 14; decide) rfl)
                have dl := due_len sp
                obtain ⟨ix5, h5, y9, y10, y11, g9, O5, q5⟩ := go_go (np := np) (v4 := .lv ((freeP s).map .int)) (v7 := .lv (ddMs (othersP s1 f to))) (due := dueP sp) f0 f1 t0 t1 lsp lr (by omega) dep_due (dueP sp) 0 s2 s3 h4 ix4 none none none O4 q4 rfl eo
                have ldu : mLenC [.lv (ddMs (dueP sp))] h4 = .ok (.int ((dueP sp).length : Int)) h4 := by
                  show R.ok (MV.int ((ddMs (dueP sp)).length : Nat)) h4 = _
                  rw [ddMs_map, List.length_map]
                have x9 : sFor (fun σ h => bindR ((mCons (mN mLenC (mCons (mVar 8) mNil)) mNil) σ h) itR1) (gmName 9) lb_law_right_0 (sigR np q sp f (.lv ((freeP s).map .int)) to rest (.lv (ddMs (othersP s1 f to))) (dueP sp) none none none) h4 =
                    .nx (sigR np q sp f (.lv ((freeP s).map .int)) to rest (.lv (ddMs (othersP s1 f to))) (dueP sp) y9 y10 y11) h5 := by
                  have v8 : (sigR np q sp f (.lv ((freeP s).map .int)) to rest (.lv (ddMs (othersP s1 f to))) (dueP sp) none none none)[8]? = some (some (.lv (ddMs (dueP sp)))) := rfl
                  have c : mN mLenC (mCons (mVar 8) mNil) (sigR np q sp f (.lv ((freeP s).map .int)) to rest (.lv (ddMs (othersP s1 f to))) (dueP sp) none none none) h4 = .ok (.int ((dueP sp).length : Int)) h4 := mN1_ok (var_ok v8) ldu
                  have fg := for_rg (g := gmName 9) (body := lb_law_right_0) c (by omega) (by omega)
                  rw [show ((dueP sp).length : Int).toNat = (dueP sp).length by omega] at fg
                  exact fg.trans g9
                have x10 := end_i (np := np) (v4 := .lv ((freeP s).map .int)) (due := dueP sp) (z9 := y9) (z10 := y10) (z11 := y11) O5.E q5 z3 f0 f1 t0 t1 lsp hend hoth
                refine ⟨h5, p2, fnM_rt ?_, O5.fr (np, _) List.mem_cons_self⟩
                exact (seq_nx x1).trans ((seq_nx x2).trans ((seq_nx x3).trans ((seq_nx x4).trans ((seq_nx x5).trans ((seq_nx x6).trans ((seq_nx x7).trans ((seq_nx x8).trans ((seq_nx x9).trans x10))))))))
end MP
namespace MP
open PySem PySem.Spec PyProof.Rows L2
noncomputable def allB : List (List Nat) := [[], [0], [1], [0,0], [0,1], [1,0], [1,1], [0,0,0], [0,0,1], [0,1,0], [0,1,1], [1,0,0], [1,0,1], [1,1,0], [1,1,1]]
noncomputable def allR (d : Nat) : Bool := allB.all fun bs => decide (0 < lenP d bs) && (List.range (lenP d bs)).all fun t => rightP d bs t
theorem r0 : allR 0 = true := by decide +kernel
theorem r1 : allR 1 = true := by decide +kernel
theorem r2 : allR 2 = true := by decide +kernel
theorem r3 : allR 3 = true := by decide +kernel
theorem bit_in {b : Nat} (h : b < 2) : b = 0 ∨ b = 1 := by omega
theorem in_all {bs : List Nat} (l : bs.length < 4) (h : ∀ b ∈ bs, b < 2) : bs ∈ allB := by
  match bs, l, h with
  | [], _, _ => decide
  | [a], _, h =>
    rcases bit_in (h a (by simp)) with e | e <;> subst e <;> decide
  | [a, b], _, h =>
    rcases bit_in (h a (by simp)) with e | e <;> rcases bit_in (h b (by simp)) with e2 | e2 <;> subst e <;> subst e2 <;> decide
  | [a, b, c], _, h =>
    rcases bit_in (h a (by simp)) with e | e <;> rcases bit_in (h b (by simp)) with e2 | e2 <;> rcases bit_in (h c (by simp)) with e3 | e3 <;> subst e <;> subst e2 <;> subst e3 <;> decide
theorem right_all {d : Nat} {bs : List Nat} (hd : d < 4) (l : bs.length < 4) (h : ∀ b ∈ bs, b < 2) : 0 < lenP d bs ∧ ∀ t, t < lenP d bs → rightP d bs t = true := by
  have a : allR d = true := by
    have : d = 0 ∨ d = 1 ∨ d = 2 ∨ d = 3 := by omega
    rcases this with e | e | e | e <;> subst e
    · exact r0
    · exact r1
    · exact r2
    · exact r3
  unfold allR at a
  have := List.all_eq_true.mp a bs (in_all l h)
  rw [Bool.and_eq_true, decide_eq_true_eq, List.all_eq_true] at this
  exact ⟨this.1, fun t ht => this.2 t (List.mem_range.mpr ht)⟩
end MP
namespace MP
open PySem PySem.Spec PyProof.Rows L2
theorem pool_i (ns : List Int) (k : Int) (h0 : 0 ≤ k) (h1 : k < 1000) (h2 : ns.length ≤ 63) (h : MH) : ∃ p : Int × Int, m_law_pool [.fz (ns.map .int), .int k] h = .ok (.ref h.length) (h ++ [poolO p]) := by
  have el : mLenC [.fz (ns.map .int)] h = .ok (.int ns.length) h := by
    show R.ok (MV.int (ns.map MV.int).length) h = _
    rw [List.length_map]
  have e7 : ∀ c : Int, mModI (.int c) (.int 2147483629) h = .ok (.int (c % 2147483629)) h := fun c => mod_int _ _ h (by decide)
  have e8 : ∀ c : Int, mModI (.int c) (.int 2147483647) h = .ok (.int (c % 2147483647)) h := fun c => mod_int _ _ h (by decide)
  have mm1 : mMul finV (.int 7919) (.int k) h = .ok (.int (7919 * k)) h := mul_int _ _ _ _ (.inl ⟨by decide, by decide⟩)
  have mm2 : mMul finV (.int (7919 * k)) (.int k) h = .ok (.int (7919 * k * k)) h := mul_int _ _ _ _ (.inr ⟨by omega, by omega⟩)
  have mm3 : mMul finV (.int 31) (.int k) h = .ok (.int (31 * k)) h := mul_int _ _ _ _ (.inl ⟨by decide, by decide⟩)
  have mm4 : ∀ c : Int, mMul finV (.int c) (.int 48271) h = .ok (.int (c * 48271)) h := fun c => mul_int _ _ _ _ (.inr ⟨by decide, by decide⟩)
  have ep : mPowI (.int 10) (.int 18) h = .ok (.int (10 ^ 18)) h := by
    simp [mPowI, iop]
  have key : ∀ (c : Int) (σ : Lo), σ = [some (.fz (ns.map .int)), some (.int k), some (.int c), none, none] → ∃ a b : Int, (sSeq (sSet 3 (mN mMax (mCons (mVar 2) (mCons (m2 mSubI (m1 mNeg (mC (.int 1))) (mVar 2)) mNil))))
    (sSeq (sSet 4 (m2 mModI (m2 (mMul finV) (m2 (mAdd finV) (m2 (mAdd finV) (m2 (mAdd finV) (m2 mModI (mVar 3) (mC (.int 2147483629))) (m2 (mMul finV) (m2 (mMul finV) (mC (.int 7919)) (mVar 1)) (mVar 1))) (m2 (mMul finV) (mC (.int 31)) (mVar 1))) (mC (.int 17))) (mC (.int 48271))) (mC (.int 2147483647))))
    (sRet (mN mkLst (mCons (m2 (mMul finV) (mVar 3) (mN mInt (mCons (m2 mGe (mVar 3) (m2 mPowI (mC (.int 10)) (mC (.int 18)))) mNil))) (mCons (mVar 4) mNil)))))) σ h = .rt (.ref h.length) (h ++ [.lst [.int a, .int b]]) := fun c σ hσ => by
    subst hσ
    generalize hm : (if -1 - c > c then -1 - c else c) = m
    have e9 : mMax [.int c, .int (-1 - c)] h = .ok (.int m) h := by rw [← hm]; rfl
    have ei : ∀ b : Bool, mInt [.bl b] h = .ok (.int (if b then 1 else 0)) h := fun _ => rfl
    have mm5 : ∀ b : Bool, mMul finV (.int m) (.int (if b then 1 else 0)) h = .ok (.int (m * (if b then 1 else 0))) h := fun b => mul_int _ _ _ _ (.inr (by cases b <;> exact ⟨by decide, by decide⟩))
    refine ⟨m * (if decide ((10 : Int) ^ 18 ≤ m) = true then 1 else 0), (m % 2147483629 + 7919 * k * k + 31 * k + 17) * 48271 % 2147483647, ?_⟩
    simp only [sSeq, sIf, sExpr, sRet, sSet, sNil, sPass, mNot, mAnd, mOr, mTru, mN, mCons, mNil, m1, m2, m3c, mVar, mC, mB, isB, isTru, List.getElem?_cons_zero, List.getElem?_cons_succ, List.set_cons_zero, List.set_cons_succ, bindR_ok, bindS_ok, Option.isSome_some, Option.isSome_none, Bool.and_self, Bool.not_true, Bool.not_false, Bool.false_eq_true, if_true, if_false, mInC, mNotInC, List.cons_append, List.nil_append, neg_int, sub_int, e9, e7, e8, mm1, mm2, mm3, mm4, add_int, ge_int, ep, ei, mm5, mkLst, List.length_cons, List.length_nil, show (0 + 1 + 1 ≤ SZ) = True from eq_true (by decide)]
  suffices T : ∃ a b : Int, mb_law_pool [some (.fz (ns.map .int)), some (.int k), none, none, none] h = .rt (.ref h.length) (h ++ [.lst [.int a, .int b]]) by
    obtain ⟨a, b, e⟩ := T
    exact ⟨(a, b), fnM_rt e⟩
  have x0 : sSet 2 (mC (.int 0)) [some (.fz (ns.map .int)), some (.int k), none, none, none] h = .nx [some (.fz (ns.map .int)), some (.int k), some (.int 0), none, none] h := rfl
  by_cases z : k < ns.length
  · have eix : mIxA (.fz (ns.map .int)) (.int k) h = .ok (.int (ns[k.toNat]'(by omega))) h := by
      have e0 : isDk (.fz (ns.map .int)) h = false := rfl
      unfold mIxA
      rw [e0]
      simp only [Bool.false_eq_true, if_false]
      have hk : k.toNat < ns.length := by omega
      unfold mIx
      simp only [asS, atI, L2.ixN, List.length_map, if_pos h0, if_pos z, Option.bind_some, List.getElem?_map, List.getElem?_eq_getElem hk, Option.map_some]
    obtain ⟨a, b, e⟩ := key _ _ rfl
    have x1 : sIf (mB (m2 mLt (mVar 1) (mN mLenC (mCons (mVar 0) mNil)))) (sSet 2 (m2 mIxA (mVar 0) (mVar 1))) sNil [some (.fz (ns.map .int)), some (.int k), some (.int 0), none, none] h = .nx [some (.fz (ns.map .int)), some (.int k), some (.int (ns[k.toNat]'(by omega))), none, none] h := by
      simp only [sSeq, sIf, sExpr, sRet, sSet, sNil, sPass, mNot, mAnd, mOr, mTru, mN, mCons, mNil, m1, m2, m3c, mVar, mC, mB, isB, isTru, List.getElem?_cons_zero, List.getElem?_cons_succ, List.set_cons_zero, List.set_cons_succ, bindR_ok, bindS_ok, Option.isSome_some, Option.isSome_none, Bool.and_self, Bool.not_true, Bool.not_false, Bool.false_eq_true, if_true, if_false, mInC, mNotInC, List.cons_append, List.nil_append, el, lt_int, decide_eq_true z, eix]
    exact ⟨a, b, (seq_nx x0).trans ((seq_nx x1).trans e)⟩
  · obtain ⟨a, b, e⟩ := key 0 _ rfl
    have x1 : sIf (mB (m2 mLt (mVar 1) (mN mLenC (mCons (mVar 0) mNil)))) (sSet 2 (m2 mIxA (mVar 0) (mVar 1))) sNil [some (.fz (ns.map .int)), some (.int k), some (.int 0), none, none] h = .nx [some (.fz (ns.map .int)), some (.int k), some (.int 0), none, none] h := by
      simp only [sSeq, sIf, sExpr, sRet, sSet, sNil, sPass, mNot, mAnd, mOr, mTru, mN, mCons, mNil, m1, m2, m3c, mVar, mC, mB, isB, isTru, List.getElem?_cons_zero, List.getElem?_cons_succ, List.set_cons_zero, List.set_cons_succ, bindR_ok, bindS_ok, Option.isSome_some, Option.isSome_none, Bool.and_self, Bool.not_true, Bool.not_false, Bool.false_eq_true, if_true, if_false, mInC, mNotInC, List.cons_append, List.nil_append, el, lt_int, decide_eq_false z]
    exact ⟨a, b, (seq_nx x0).trans ((seq_nx x1).trans e)⟩
theorem cell_i (ns : List Int) (k : Int) (h0 : 0 ≤ k) (h1 : k < 1000) (h2 : ns.length ≤ 63) : sGc [1] lb_law_0 [some (.fz (ns.map .int)), some (.int k)] [] = .nx [some (.fz (ns.map .int)), none] [] := by
  obtain ⟨p, ep⟩ := pool_i ns k h0 h1 h2 []
  have e1 : cR 2 m_law_pool [.fz (ns.map .int), .int k] [] = .ok (.ref 0) [poolO p] := cR_new (l := [.int p.1, .int p.2]) rfl ep (by simp)
  have d4 := drw_lt p (m := 4) (by decide)
  have e4 := drw_lt (drw p 4).2 (m := 4) (by decide)
  have bo := bits_ok (drw (drw p 4).2 4).1.toNat (drw (drw p 4).2 4).2
  obtain ⟨lp, ra⟩ := right_all (d := mdP p) (bs := mbP p) (by unfold mdP; omega) (by unfold mbP; rw [bo.1]; omega) bo.2
  have tl := drw_lt (mpP p) (m := (lenP (mdP p) (mbP p) : Int)) (by omega)
  have rr := ra (tP p) (by unfold tP; omega)
  obtain ⟨h', p', er, eh⟩ := right_i (np := 0) (p := p) (h := [poolO p]) rfl lp rr
  have tk : h'.take 1 = [poolO p'] := by
    cases h' with
    | nil => cases eh
    | cons a r => cases eh; rfl
  have e2 : cF 1 m_law_right [.ref 0] [poolO p] = .ok (.bl true) [poolO p'] := by
    unfold cF
    rw [if_pos (by rfl), er, bindR_ok]
    unfold gcF
    have ln : ([poolO p] : MH).length = 1 := rfl
    rw [ln]
    by_cases z : h'.length ≤ 1
    · rw [if_pos z]
      have : h' = [poolO p'] := by rw [← tk, List.take_of_length_le z]
      rw [this]
    · rw [if_neg z]
      have kp : keptH [poolO p] h' = true := by
        unfold keptH
        rw [ln, tk]
        have : clH 1 [poolO p'] = true := rfl
        rw [this, Bool.or_true]
      rw [if_pos kp]
      show (match frV h' 1 12 (.bl true) with | some v2 => R.ok v2 (h'.take 1) | none => R.ok (.bl true) h') = _
      have : frV h' 1 12 (.bl true) = some (.bl true) := fr_pure h' 1 12 rfl
      rw [this, tk]
  have B : lb_law_0 [some (.fz (ns.map .int)), some (.int k)] [] = .nx [some (.fz (ns.map .int)), some (.int k)] ([] ++ [poolO p']) := by
    unfold lb_law_0
    simp only [sSeq, sIf, sExpr, sRet, sSet, sNil, sPass, mNot, mAnd, mOr, mTru, mN, mCons, mNil, m1, m2, m3c, mVar, mC, mB, isB, isTru, List.getElem?_cons_zero, List.getElem?_cons_succ, List.set_cons_zero, List.set_cons_succ, bindR_ok, bindS_ok, Option.isSome_some, Option.isSome_none, Bool.and_self, Bool.not_true, Bool.not_false, Bool.false_eq_true, if_true, if_false, mInC, mNotInC, List.cons_append, List.nil_append, e1, e2]
  refine sGc_app (ks := [1]) (h := []) B ?_
  show clL 0 [some (.fz (ns.map .int)), none] = true
  have pf : pureV (.fz (ns.map .int)) = true := by rw [pureV]; exact pure_ints ns
  simp only [clL, cl_pure 0 pf, Bool.and_self]
theorem law_all (ns : List Int) (hn : ns.length ≤ 63) : ∃ h', m_law [.fz (ns.map .int)] [] = .ok (.bl true) h' := by
  refine ⟨[], fnM_rt ?_⟩
  show mb_law [some (.fz (ns.map .int)), none] [] = _
  have el : mLenC [.fz (ns.map .int)] [] = .ok (.int ns.length) [] := by
    show R.ok (MV.int (ns.map MV.int).length) [] = _
    rw [List.length_map]
  generalize hN : (max 1 (min 10 (ns.length : Int))) = N
  have lp : ∀ (l : List Nat) (z : Option MV), (∀ i ∈ l, i < 100) → (z = none) → forGo (fun _ => true) (gmName 1) (sGc [1] lb_law_0) (l.map fun i : Nat => MV.int (i : Int)) [some (.fz (ns.map .int)), z] [] = .nx [some (.fz (ns.map .int)), none] [] := by
    intro l
    induction l with
    | nil => intro z _ hz; subst hz; rfl
    | cons i r ih =>
      intro z lt hz
      have hi := lt i List.mem_cons_self
      have c := cell_i ns (i : Int) (by omega) (by omega) hn
      have g : gmName 1 (MV.int (i : Int)) [some (.fz (ns.map .int)), z] [] = .ok [some (.fz (ns.map .int)), some (.int (i : Int))] [] := rfl
      rw [List.map_cons, forGo, if_pos rfl, g]
      simp only [c]
      exact ih none (fun j hj => lt j (List.mem_cons_of_mem _ hj)) rfl
  have emin : mMin [.int 10, .int ns.length] [] = .ok (.int (min 10 (ns.length : Int))) [] := by
    show R.ok (MV.int (if (ns.length : Int) < 10 then (ns.length : Int) else 10)) [] = _
    congr 2
    omega
  have emax : mMax [.int 1, .int (min 10 (ns.length : Int))] [] = .ok (.int N) [] := by
    show R.ok (MV.int (if min 10 (ns.length : Int) > 1 then min 10 (ns.length : Int) else 1)) [] = _
    congr 2
    omega
  have cr : mN mMax (mCons (mC (.int 1)) (mCons (mN mMin (mCons (mC (.int 10)) (mCons (mN mLenC (mCons (mVar 0) mNil)) mNil))) mNil)) [some (.fz (ns.map .int)), none] [] = .ok (.int N) [] := by
    simp only [sSeq, sIf, sExpr, sRet, sSet, sNil, sPass, mNot, mAnd, mOr, mTru, mN, mCons, mNil, m1, m2, m3c, mVar, mC, mB, isB, isTru, List.getElem?_cons_zero, List.getElem?_cons_succ, List.set_cons_zero, List.set_cons_succ, bindR_ok, bindS_ok, Option.isSome_some, Option.isSome_none, Bool.and_self, Bool.not_true, Bool.not_false, Bool.false_eq_true, if_true, if_false, mInC, mNotInC, List.cons_append, List.nil_append, el, emin, emax]
  have fg := for_rg (g := gmName 1) (body := sGc [1] lb_law_0) cr (by omega) (by omega)
  have go : forGo (fun _ => true) (gmName 1) (sGc [1] lb_law_0) (rgF 0 N.toNat) [some (.fz (ns.map .int)), none] [] = .nx [some (.fz (ns.map .int)), none] [] := by
    unfold rgF
    exact lp _ none (fun i hi => by have := List.mem_range'_1.mp hi; omega) rfl
  exact (seq_nx (fg.trans go)).trans rfl
end MP
open PySem PySem.W PySem.Calls PyProof.Rows
set_option maxHeartbeats 0 in
theorem PySem.Challenge.cw_greatframes_k24_moves_step_by_step_holds : PySem.Challenge.rw_greatframes_k24_moves_step_by_step.Holds := by
  w_on; o_law
  refine HandSHeadRun.head_any (r := OpenLaw.row PySem.Challenge.rw_greatframes_k24_moves_step_by_step) (q := MP.qv) (H := MP.hkM) (ob := MP.obM) (M := 60000) (loose := MP.looseM) (d := HandSHeadRun.topDef (OpenLaw.row PySem.Challenge.rw_greatframes_k24_moves_step_by_step).prog 55) (kwd := []) MP.obM_eq
    (by kernel_rfl) (fun s => by kernel_rfl) MP.runM (by kernel_rfl) (by kernel_rfl) (by kernel_rfl) (by rfl) (by first | assumption | decide +kernel) (by decide +kernel) ⟨rfl, rfl, rfl, rfl, rfl, by decide +kernel⟩ ?hw ?hc
  case hw => w_witness2
  case hc =>
    refine MP.walkH (l := PySem.Challenge.rw_greatframes_k24_moves_step_by_step) (k := 12) rfl (by kernel_rfl) ⟨rfl, by decide, by decide⟩ ?F
    intro w mg fa h K KX c G hmg0
    have hmg : mg ("law" : PySem.Str) = some (.ref fa) := by
      have e : (HandSHeadRun.topDef (OpenLaw.row PySem.Challenge.rw_greatframes_k24_moves_step_by_step).prog 55).name = ("law" : PySem.Str) := by kernel_rfl
      rw [← e]
      exact hmg0
    exact MP.all_mk hmg (fun base => MP.tx_mk KX G c base) (fun _ _ => ⟨rfl, rfl⟩) MP.law_all
