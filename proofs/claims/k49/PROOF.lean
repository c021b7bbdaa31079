import PyProof.Rows.All
import Wide.All
import OpenK.AllK
import Wide.FinOn
import HandS.ForMost
import HandS.ForSpec
import HandS.CallSlots
import HandS.ExcInit
import HandS.ExcIs
import HandS.ExcField
import HandS.HotCalls
import HandS.SortInts
import HandS.IsInst
import HandS.Defaults
import HandS.Wide
import HandS.Flow
import PyProof.Rows.StrRevDown
import PySem.Challenge.RW_wordruns_k49_critical_cuts
set_option Elab.async false
set_option linter.all false
set_option maxRecDepth 100000
set_option maxHeartbeats 4000000
/-! A small typed layer over HandS: results, representations, owned data, environments. -/
namespace M
open PySem PySem.Spec PyProof.Rows L2

/-! ### results of a mirrored def -/
structure Exn where
  cls : Str
  fs : List (Str × V)
  deriving DecidableEq
inductive Res (α : Type) : Type where
  | ok (a : α) | exc (e : Exn) | bad
  deriving DecidableEq
def Res.bind {α β : Type} (m : Res α) (f : α → Res β) : Res β := match m with | .ok a => f a | .exc e => .exc e | .bad => .bad
def wp {α : Type} (m : Res α) (P : α → Prop) (X : Exn → Prop) : Prop := match m with | .ok a => P a | .exc e => X e | .bad => False
@[simp] theorem Res.bind_ok {α β : Type} (a : α) (f : α → Res β) : (Res.ok a).bind f = f a := rfl
@[simp] theorem Res.bind_exc {α β : Type} (e : Exn) (f : α → Res β) : (Res.exc e).bind f = .exc e := rfl
@[simp] theorem Res.bind_bad {α β : Type} (f : α → Res β) : (Res.bad : Res α).bind f = .bad := rfl
theorem Res.bind_assoc {α β γ : Type} (m : Res α) (f : α → Res β) (g : β → Res γ) : (m.bind f).bind g = m.bind fun a => (f a).bind g := by cases m <;> rfl
theorem wp_bind {α β : Type} {m : Res α} {f : α → Res β} {P : β → Prop} {X : Exn → Prop} : wp (m.bind f) P X ↔ wp m (fun a => wp (f a) P X) X := by cases m <;> exact Iff.rfl
theorem wp_mono {α : Type} {m : Res α} {P P' : α → Prop} {X X' : Exn → Prop} (h : wp m P X) (hP : ∀ a, P a → P' a) (hX : ∀ e, X e → X' e) : wp m P' X' := by
  cases m with
  | ok a => exact hP a h
  | exc e => exact hX e h
  | bad => exact h
theorem wp_ok {α : Type} {a : α} {P : α → Prop} {X : Exn → Prop} (h : P a) : wp (.ok a) P X := h

/-- a value whose making is not looked at -/
noncomputable def clo {α : Type} (r : α) : α := Classical.choose (⟨r, rfl⟩ : ∃ x, x = r)
theorem clo_eq {α : Type} (r : α) : clo r = r := Classical.choose_spec (⟨r, rfl⟩ : ∃ x, x = r)

/-! ### representations -/
class Rep (α : Type) where
  rp : PySem.W.Frag → Hp → V → α → Prop
  mono : ∀ {K : PySem.W.Frag} {I J : Hp} {v : V} {a : α}, Same I J → rp K I v a → rp K J v a
/-- a value that needs no heap -/
class Sca (α : Type) where
  enc : α → V
  okv : α → Prop
instance (priority := high) scaInt : Sca Int := ⟨V.int, fun _ => True⟩
instance (priority := high) scaBool : Sca Bool := ⟨V.bl, fun _ => True⟩
instance (priority := high) scaUnit : Sca Unit := ⟨fun _ => V.non, fun _ => True⟩
/-- the greatest length of a list, a text -/
def line : Nat := 16777216
theorem line_eq : line = sizeLine := by rw [sizeLine_eq]; rfl
/-- a text: its codes -/
abbrev Tx : Type := List Nat
def mkS (w : Tx) : Str := ⟨List.toArray w⟩
instance (priority := high) scaTx : Sca Tx := ⟨fun w => V.str (mkS w), fun w => w.length ≤ line⟩
instance (priority := high) repSca {α : Type} [Sca α] : Rep α := ⟨fun _ _ v a => v = Sca.enc a ∧ Sca.okv a, fun _ h => h⟩
theorem Paired.monoR {α : Type} {f g : V → α → Prop} (h : ∀ v a, f v a → g v a) : ∀ {vs : List V} {xs : List α}, Paired f vs xs → Paired g vs xs
  | _, _, .nil => .nil
  | _, _, .cons r t => .cons (h _ _ r) (Paired.monoR h t)
theorem same_seqT {K : PySem.W.Frag} {H H' : Hp} {a : Addr} {xs : List V} (e : Same H H') (h : SqT K H a xs) : SqT K H' a xs := by
  rcases h with h | h
  · rcases h with h | ⟨o, h⟩
    · exact .inl (.inl (e _ _ h))
    · exact .inl (.inr ⟨o, e _ _ h⟩)
  · exact .inr h
/-- a list -/
instance repList {α : Type} [Rep α] : Rep (List α) where
  rp K I v xs := ∃ a vs, v = .ref a ∧ I a = some (.lst vs) ∧ Paired (fun v x => Rep.rp K I v x) vs xs
  mono := fun e ⟨a, vs, e1, h, p⟩ => ⟨a, vs, e1, e _ _ h, Paired.monoR (fun _ _ q => Rep.mono e q) p⟩
/-- the law's script -/
structure Scr where
  l : List Int
instance repScr : Rep Scr where
  rp K I v x := ∃ a, v = .ref a ∧ SqL K I a (x.l.map V.int)
  mono := fun e ⟨a, e1, h⟩ => ⟨a, e1, e.seq h⟩
/-- a tuple of any length, of one kind -/
structure TupL (α : Type) where
  l : List α
instance repTupL {α : Type} [Rep α] : Rep (TupL α) where
  rp K I v xs := ∃ a vs, v = .ref a ∧ SqT K I a vs ∧ Paired (fun v x => Rep.rp K I v x) vs xs.l
  mono := fun e ⟨a, vs, e1, h, p⟩ => ⟨a, vs, e1, same_seqT e h, Paired.monoR (fun _ _ q => Rep.mono e q) p⟩
/-- a pair, a triple -/
instance repPair {α β : Type} [Rep α] [Rep β] : Rep (α × β) where
  rp K I v x := ∃ a v1 v2, v = .ref a ∧ SqT K I a [v1, v2] ∧ Rep.rp K I v1 x.1 ∧ Rep.rp K I v2 x.2
  mono := fun e ⟨a, v1, v2, e1, h, p, q⟩ => ⟨a, v1, v2, e1, same_seqT e h, Rep.mono e p, Rep.mono e q⟩
structure T3 (α β γ : Type) where
  a : α
  b : β
  c : γ
  deriving DecidableEq
instance repT3 {α β γ : Type} [Rep α] [Rep β] [Rep γ] : Rep (T3 α β γ) where
  rp K I v x := ∃ a v1 v2 v3, v = .ref a ∧ SqT K I a [v1, v2, v3] ∧ Rep.rp K I v1 x.a ∧ Rep.rp K I v2 x.b ∧ Rep.rp K I v3 x.c
  mono := fun e ⟨a, v1, v2, v3, e1, h, p, q, r⟩ => ⟨a, v1, v2, v3, e1, same_seqT e h, Rep.mono e p, Rep.mono e q, Rep.mono e r⟩
instance repOpt {α : Type} [Rep α] : Rep (Option α) where
  rp K I v x := match x with | none => v = .non | some y => Rep.rp K I v y
  mono := fun {K I J v x} e h => by
    cases x with
    | none => exact h
    | some y => exact Rep.mono (α := α) e h

/-! ### owned data: it may be changed; fp: its addresses -/
class Own (α : Type) where
  ow : PySem.W.Frag → List Addr → Hp → Hp → V → α → Prop
  mono : ∀ {K : PySem.W.Frag} {fp : List Addr} {I H I' H' : Hp} {v : V} {a : α}, Same I I' → (∀ b ∈ fp, H' b = H b) → ow K fp I H v a → ow K fp I' H' v a
instance ownList {α : Type} [Rep α] : Own (List α) where
  ow K fp I H v xs := ∃ p vs, v = .ref p ∧ fp = [p] ∧ H p = some (.lst vs) ∧ Paired (fun v x => Rep.rp K I v x) vs xs
  mono := fun e k ⟨p, vs, e1, e2, h, q⟩ => ⟨p, vs, e1, e2, by subst e2; rw [k p (by simp)]; exact h, Paired.monoR (fun _ _ z => Rep.mono e z) q⟩

/-! ### environments -/
inductive Cell : Type 1 where
  | any
  | im {α : Type} [Rep α] (a : α)
  | own {α : Type} [Own α] (a : α) (pn : Option V := none)
def CellR (K : PySem.W.Frag) (I H : Hp) (fp : List Addr) (o : Option V) (c : Cell) : Prop := match c with
  | .any => fp = []
  | @Cell.im α _ a => fp = [] ∧ ∃ v, o = some v ∧ Rep.rp (α := α) K I v a
  | @Cell.own α _ a pn => ∃ v, o = some v ∧ (∀ w, pn = some w → v = w) ∧ Own.ow (α := α) K fp I H v a
abbrev Ent := Option V × Cell
def Ents (K : PySem.W.Frag) (I H : Hp) : List Ent → List (List Addr) → Prop
  | [], [] => True
  | e :: es, f :: fs => CellR K I H f e.1 e.2 ∧ Ents K I H es fs
  | _, _ => False
def EnvL (K : PySem.W.Frag) (I H : Hp) (es : List Ent) : Prop :=
  Same I H ∧ ∃ fs, Ents K I H es fs ∧ fs.flatten.Nodup ∧ ∀ a ∈ fs.flatten, I a = none ∧ H a ≠ none

section
variable {K : PySem.W.Frag} {I H I' H' : Hp} {e e' : Ent} {es es' : List Ent} {o : Option V} {v : V} {c : Cell}
theorem Ents.perm (p : es.Perm es') : ∀ {fs : List (List Addr)}, Ents K I H es fs → ∃ fs', fs.Perm fs' ∧ Ents K I H es' fs' := by
  induction p with
  | nil => exact fun {fs} h => ⟨fs, .refl _, h⟩
  | cons x _ ih =>
    intro fs h
    cases fs with
    | nil => exact h.elim
    | cons f fs =>
      obtain ⟨fs', p', h'⟩ := ih h.2
      exact ⟨f :: fs', p'.cons f, h.1, h'⟩
  | swap x y l =>
    intro fs h
    cases fs with
    | nil => exact h.elim
    | cons f fs =>
      cases fs with
      | nil => exact h.2.elim
      | cons g fs => exact ⟨g :: f :: fs, .swap _ _ _, h.2.1, h.1, h.2.2⟩
  | trans _ _ ih1 ih2 =>
    intro fs h
    obtain ⟨f1, p1, h1⟩ := ih1 h
    obtain ⟨f2, p2, h2⟩ := ih2 h1
    exact ⟨f2, p1.trans p2, h2⟩
theorem EnvL.perm (p : es.Perm es') (h : EnvL K I H es) : EnvL K I H es' := by
  obtain ⟨s, fs, h1, h2, h3⟩ := h
  obtain ⟨fs', p', h'⟩ := Ents.perm p h1
  have q := p'.flatten
  exact ⟨s, fs', h', q.nodup_iff.mp h2, fun a ha => h3 a (q.mem_iff.mpr ha)⟩
theorem EnvL.tail (h : EnvL K I H (e :: es)) : EnvL K I H es := by
  obtain ⟨s, fs, h1, h2, h3⟩ := h
  cases fs with
  | nil => exact h1.elim
  | cons f fs =>
    rw [List.flatten_cons] at h2 h3
    exact ⟨s, fs, h1.2, (List.nodup_append.mp h2).2.1, fun a ha => h3 a (List.mem_append_right _ ha)⟩
theorem EnvL.any (h : EnvL K I H es) : EnvL K I H ((o, .any) :: es) := by
  obtain ⟨s, fs, h1, h2, h3⟩ := h
  exact ⟨s, [] :: fs, ⟨rfl, h1⟩, h2, h3⟩
theorem EnvL.im {α : Type} [Rep α] {a : α} (h : EnvL K I H es) (r : Rep.rp K I v a) : EnvL K I H ((some v, .im a) :: es) := by
  obtain ⟨s, fs, h1, h2, h3⟩ := h
  exact ⟨s, [] :: fs, ⟨⟨rfl, v, rfl, r⟩, h1⟩, h2, h3⟩
theorem EnvL.get {α : Type} [Rep α] {a : α} (h : EnvL K I H ((o, .im a) :: es)) : ∃ v, o = some v ∧ Rep.rp K I v a := by
  obtain ⟨s, fs, h1, _⟩ := h
  cases fs with
  | nil => exact h1.elim
  | cons f fs => exact h1.1.2
theorem EnvL.mem {α : Type} [Rep α] {a : α} (h : EnvL K I H es) (m : (o, Cell.im a) ∈ es) : ∃ v, o = some v ∧ Rep.rp K I v a := by
  obtain ⟨l1, l2, e⟩ := List.append_of_mem m
  subst e
  exact (h.perm List.perm_middle).get
/-- what changes at most: new things, and what is owned by nobody here -/
structure Grow (I H I' H' : Hp) : Prop where
  im : Same I I'
  sub : Same I' H'
  old : ∀ a, H a ≠ none → I' a = I a
  keep : Same H H'
theorem Grow.refl (h : Same I H) : Grow I H I H := ⟨Same.refl _, h, fun _ _ => rfl, Same.refl _⟩
theorem Ents.mono (hI : Same I I') : ∀ {es : List Ent} {fs : List (List Addr)}, (∀ a ∈ fs.flatten, H' a = H a) → Ents K I H es fs → Ents K I' H' es fs
  | [], [], _, _ => trivial
  | [], _ :: _, _, h => h.elim
  | _ :: _, [], _, h => h.elim
  | e :: es, f :: fs, k, h => by
    rw [List.flatten_cons] at k
    refine ⟨?_, Ents.mono hI (fun a ha => k a (List.mem_append_right _ ha)) h.2⟩
    have h1 := h.1
    obtain ⟨o, c⟩ := e
    cases c with
    | any => exact h1
    | im a =>
      obtain ⟨e1, v, e2, r⟩ := h1
      exact ⟨e1, v, e2, Rep.mono hI r⟩
    | own a pn =>
      obtain ⟨v, e2, e3, r⟩ := h1
      exact ⟨v, e2, e3, Own.mono hI (fun b hb => k b (List.mem_append_left _ hb)) r⟩
theorem EnvL.grow (g : Grow I H I' H') (h : EnvL K I H es) : EnvL K I' H' es := by
  obtain ⟨s, fs, h1, h2, h3⟩ := h
  have k : ∀ a ∈ fs.flatten, H' a = H a := fun a ha => by
    cases e : H a with
    | none => exact absurd e (h3 a ha).2
    | some o => exact g.keep a o e
  refine ⟨g.sub, fs, Ents.mono g.im k h1, h2, fun a ha => ⟨?_, ?_⟩⟩
  · rw [g.old a (h3 a ha).2]
    exact (h3 a ha).1
  · rw [k a ha]
    exact (h3 a ha).2
/-- a new immutable object -/
theorem Grow.newI {p : Addr} {u : HO} (s : Same I H) (hp : H p = none) : Grow I H (upd I p u) (upd H p u) := by
  have hi : I p = none := by
    cases e : I p with
    | none => rfl
    | some o => rw [s p o e] at hp; cases hp
  refine ⟨fun a o e => ?_, fun a o e => ?_, fun a e => ?_, fun a o e => ?_⟩
  · rw [upd_ne (ne_of_none e hi)]; exact e
  · by_cases q : a = p
    · subst q; rw [upd_same] at e ⊢; exact e
    · rw [upd_ne q] at e ⊢; exact s a o e
  · exact upd_ne fun q => e (by rw [q]; exact hp)
  · rw [upd_ne (ne_of_none e hp)]; exact e
/-- a new object that I does not tell -/
theorem Grow.newH {p : Addr} {u : HO} (s : Same I H) (hp : H p = none) : Grow I H I (upd H p u) := by
  refine ⟨Same.refl _, fun a o e => ?_, fun _ _ => rfl, fun a o e => ?_⟩
  · rw [upd_ne (ne_of_none (s a o e) hp)]; exact s a o e
  · rw [upd_ne (ne_of_none e hp)]; exact e
theorem EnvL.none_of (h : EnvL K I H es) {p : Addr} (hp : H p = none) : I p = none := by
  cases e : I p with
  | none => rfl
  | some o => rw [h.1 p o e] at hp; cases hp
theorem EnvL.repin {α : Type} [Own α] {a : α} {pn pn' : Option V} (h : EnvL K I H ((some v, .own a pn) :: es)) (hp : ∀ w, pn' = some w → v = w) : EnvL K I H ((some v, .own a pn') :: es) := by
  obtain ⟨s, fs, h1, h2, h3⟩ := h
  cases fs with
  | nil => exact h1.elim
  | cons f fs =>
    obtain ⟨⟨w, e1, _, q⟩, h1⟩ := h1
    cases e1
    exact ⟨s, f :: fs, ⟨⟨v, rfl, hp, q⟩, h1⟩, h2, h3⟩
theorem EnvL.pin {α : Type} [Own α] {a : α} {pn : Option V} (h : EnvL K I H ((some v, .own a pn) :: es)) : ∀ w, pn = some w → v = w := by
  obtain ⟨s, fs, h1, h2, h3⟩ := h
  cases fs with
  | nil => exact h1.elim
  | cons f fs =>
    obtain ⟨⟨w, e1, e2, q⟩, h1⟩ := h1
    cases e1
    exact e2
/-- a new owned list -/
theorem EnvL.newL {α : Type} [Rep α] {p : Addr} {vs : List V} {xs : List α} (h : EnvL K I H es) (hp : H p = none) (r : Paired (fun v x => Rep.rp K I v x) vs xs) : EnvL K I (upd H p (.lst vs)) ((some (.ref p), .own xs) :: es) := by
  have hi := h.none_of hp
  obtain ⟨s, fs, h1, h2, h3⟩ := h.grow (Grow.newH (u := .lst vs) h.1 hp)
  obtain ⟨_, fs0, h10, h20, h30⟩ := h
  have g := Grow.newH (u := .lst vs) (I := I) ‹_› hp
  refine ⟨s, [p] :: fs0, ⟨⟨.ref p, rfl, (fun _ z => nomatch z), p, vs, rfl, rfl, upd_same, r⟩, Ents.mono (Same.refl _) (fun a ha => upd_ne fun q => (h30 a ha).2 (by rw [q]; exact hp)) h10⟩, ?_, fun a ha => ?_⟩
  · rw [List.flatten_cons]
    refine List.nodup_append.mpr ⟨by simp, h20, fun a ha b hb q => ?_⟩
    have e : a = p := by simpa using ha
    subst e
    subst q
    exact (h30 _ hb).2 hp
  · rw [List.flatten_cons] at ha
    rcases List.mem_append.mp ha with ha | ha
    · have e : a = p := by simpa using ha
      subst e
      exact ⟨hi, by rw [upd_same]; exact fun z => nomatch z⟩
    · exact ⟨(h30 a ha).1, by rw [upd_ne fun q => (h30 a ha).2 (by rw [q]; exact hp)]; exact (h30 a ha).2⟩
/-- an owned list: it is there, it may be changed -/
theorem EnvL.ownL {α : Type} [Rep α] {xs : List α} {pn : Option V} (h : EnvL K I H ((o, .own xs pn) :: es)) : ∃ p vs, o = some (.ref p) ∧ H p = some (.lst vs) ∧ I p = none ∧ Paired (fun v x => Rep.rp K I v x) vs xs ∧
    (∀ {I' H' : Hp}, Grow I H I' H' → ∀ (vs' : List V) {β : Type} [Rep β] (ys : List β), Paired (fun v x => Rep.rp K I' v x) vs' ys → EnvL K I' (upd H' p (.lst vs')) ((o, .own ys pn) :: es)) ∧
    EnvL K (upd I p (.lst vs)) H ((o, .im xs) :: es) := by
  obtain ⟨s, fs, h1, h2, h3⟩ := id h
  cases fs with
  | nil => exact h1.elim
  | cons f fs =>
    obtain ⟨⟨v, e1, e0, p, vs, e2, e3, hp, r⟩, h1⟩ := h1
    dsimp only at e1
    subst e1 e2 e3
    rw [List.flatten_cons] at h2 h3
    have hn := List.nodup_append.mp h2
    have pI := (h3 p (by simp)).1
    have npf : ∀ a ∈ fs.flatten, a ≠ p := fun a ha q => hn.2.2 p (by simp) a ha q.symm
    refine ⟨p, vs, rfl, hp, pI, r, fun {I' H'} g vs' β _ ys r' => ?_, ?_⟩
    · have pI' : I' p = none := by rw [g.old p (by rw [hp]; exact fun z => nomatch z)]; exact pI
      refine ⟨fun a u e => ?_, [p] :: fs, ⟨⟨.ref p, rfl, e0, p, vs', rfl, rfl, upd_same, r'⟩, Ents.mono g.im (fun a ha => ?_) h1⟩, by rw [List.flatten_cons]; exact h2, fun a ha => ?_⟩
      · rw [upd_ne (ne_of_none e pI')]
        exact g.sub a u e
      · rw [upd_ne (npf a ha)]
        cases e : H a with
        | none => exact absurd e (h3 a (List.mem_append_right _ ha)).2
        | some u => exact g.keep a u e
      · rw [List.flatten_cons] at ha
        have q := h3 a ha
        refine ⟨by rw [g.old a q.2]; exact q.1, ?_⟩
        by_cases hap : a = p
        · rw [hap, upd_same]; exact fun z => nomatch z
        · rw [upd_ne hap]
          cases e : H a with
          | none => exact absurd e q.2
          | some u => rw [g.keep a u e]; exact fun z => nomatch z
    · have sI : Same I (upd I p (.lst vs)) := fun a u e => by rw [upd_ne (ne_of_none e pI)]; exact e
      refine ⟨fun a u e => ?_, [] :: fs, ⟨⟨rfl, .ref p, rfl, p, vs, rfl, upd_same, Paired.monoR (fun _ _ z => Rep.mono sI z) r⟩, Ents.mono sI (fun _ _ => rfl) h1⟩, hn.2.1, fun a ha => ?_⟩
      · by_cases hap : a = p
        · rw [hap, upd_same] at e; rw [hap, hp]; exact e
        · rw [upd_ne hap] at e; exact s a u e
      · have q := h3 a (List.mem_append_right _ ha)
        exact ⟨by rw [upd_ne (npf a ha)]; exact q.1, q.2⟩
end
end M
namespace M
open PySem PySem.Spec PyProof.Rows L2

/-! ### environments by slots and a stack -/
theorem perm_at {α : Type _} : ∀ {l : List α} {i : Nat} {e : α}, l[i]? = some e → ∃ r, l.Perm (e :: r) ∧ ∀ e', (l.set i e').Perm (e' :: r)
  | [], _, _, h => by simp at h
  | a :: l, 0, e, h => by
    have q : a = e := by simpa using h
    subst q
    exact ⟨l, .refl _, fun _ => .refl _⟩
  | a :: l, i + 1, e, h => by
    obtain ⟨r, p1, p2⟩ := perm_at (l := l) (i := i) (e := e) (by simpa using h)
    exact ⟨a :: r, (p1.cons a).trans (.swap _ _ _), fun e' => ((p2 e').cons a).trans (.swap _ _ _)⟩
theorem zip_at {α β : Type _} : ∀ {l : List α} {m : List β} {i : Nat} {a : α} {b : β}, l[i]? = some a → m[i]? = some b → (l.zip m)[i]? = some (a, b)
  | [], _, _, _, _, h, _ => by simp at h
  | _ :: _, [], _, _, _, _, h => by simp at h
  | x :: l, y :: m, 0, a, b, h, h' => by
    have e1 : x = a := by simpa using h
    have e2 : y = b := by simpa using h'
    subst e1 e2
    rfl
  | x :: l, y :: m, i + 1, a, b, h, h' => by
    have := zip_at (l := l) (m := m) (i := i) (a := a) (b := b) (by simpa using h) (by simpa using h')
    simpa using this
theorem zip_set {α β : Type _} : ∀ {l : List α} {m : List β} {i : Nat} {a : α} {b : β}, (l.set i a).zip (m.set i b) = (l.zip m).set i (a, b)
  | [], _, _, _, _ => by simp
  | _ :: _, [], _, _, _ => by simp
  | x :: l, y :: m, 0, a, b => by simp
  | x :: l, y :: m, i + 1, a, b => by simp [zip_set (l := l) (m := m) (i := i)]
theorem set_same {α : Type _} : ∀ {l : List α} {i : Nat} {a : α}, l[i]? = some a → l.set i a = l
  | [], _, _, h => by simp at h
  | x :: l, 0, a, h => by
    have e : x = a := by simpa using h
    subst e
    rfl
  | x :: l, i + 1, a, h => by
    have := set_same (l := l) (i := i) (a := a) (by simpa using h)
    simp [this]

def Env (K : PySem.W.Frag) (I H : Hp) (σ : List (Option V)) (Γ : List Cell) (ρ : List (Option V)) (Θ : List Cell) : Prop :=
  σ.length = Γ.length ∧ ρ.length = Θ.length ∧ EnvL K I H (σ.zip Γ ++ ρ.zip Θ)
section
variable {K : PySem.W.Frag} {I H I' H' : Hp} {σ ρ τ : List (Option V)} {Γ Γ' Θ Δ : List Cell} {i : Nat} {o : Option V} {v : V} {c c' : Cell}
theorem Env.slot (E : Env K I H σ Γ ρ Θ) (h : Γ[i]? = some c) : ∃ o, σ[i]? = some o := by
  have hl : i < Γ.length := (List.getElem?_eq_some_iff.mp h).1
  exact ⟨σ[i]'(by rw [E.1]; exact hl), List.getElem?_eq_getElem _⟩
/-- the entry at a slot, alone -/
theorem Env.pick (E : Env K I H σ Γ ρ Θ) (h : Γ[i]? = some c) : ∃ o r, σ[i]? = some o ∧ EnvL K I H ((o, c) :: r) ∧
    ∀ {I' H' : Hp} (o' : Option V) (c' : Cell), EnvL K I' H' ((o', c') :: r) → Env K I' H' (σ.set i o') (Γ.set i c') ρ Θ := by
  obtain ⟨o, ho⟩ := E.slot h
  obtain ⟨r, p1, p2⟩ := perm_at (zip_at ho h)
  refine ⟨o, r ++ ρ.zip Θ, ho, E.2.2.perm (p1.append_right _), fun o' c' q => ⟨by simp [E.1], E.2.1, ?_⟩⟩
  rw [zip_set]
  exact q.perm ((p2 (o', c')).symm.append_right _)
theorem Env.get {α : Type} [Rep α] {a : α} (E : Env K I H σ Γ ρ Θ) (h : Γ[i]? = some (.im a)) : ∃ v, σ[i]? = some (some v) ∧ Rep.rp K I v a := by
  obtain ⟨o, r, ho, e, _⟩ := E.pick h
  obtain ⟨v, e1, q⟩ := e.get
  subst e1
  exact ⟨v, ho, q⟩
theorem Env.sca {α : Type} [Sca α] {a : α} (E : Env K I H σ Γ ρ Θ) (h : Γ[i]? = some (.im a)) : σ[i]? = some (some (Sca.enc a)) ∧ Sca.okv a := by
  obtain ⟨v, ho, q⟩ := E.get h
  have e : v = Sca.enc a ∧ Sca.okv a := q
  rw [ho, e.1]
  exact ⟨rfl, e.2⟩
theorem Env.same (E : Env K I H σ Γ ρ Θ) : Same I H := E.2.2.1
theorem Env.toStack (E : Env K I H σ Γ ρ Θ) (h : EnvL K I' H' ((o, c) :: (σ.zip Γ ++ ρ.zip Θ))) : Env K I' H' σ Γ (o :: ρ) (c :: Θ) :=
  ⟨E.1, by simp [E.2.1], h.perm List.perm_middle.symm⟩
theorem Env.push {α : Type} [Rep α] {a : α} (E : Env K I H σ Γ ρ Θ) (r : Rep.rp K I v a) : Env K I H σ Γ (some v :: ρ) (.im a :: Θ) := E.toStack (E.2.2.im r)
theorem Env.pushS {α : Type} [Sca α] (E : Env K I H σ Γ ρ Θ) {a : α} (ok : Sca.okv a) : Env K I H σ Γ (some (Sca.enc a) :: ρ) (.im a :: Θ) := E.push ⟨rfl, ok⟩
theorem Env.unstack (E : Env K I H σ Γ (o :: ρ) (c :: Θ)) : EnvL K I H ((o, c) :: (σ.zip Γ ++ ρ.zip Θ)) := E.2.2.perm List.perm_middle
theorem Env.len (E : Env K I H σ Γ (o :: ρ) (c :: Θ)) : ρ.length = Θ.length := by have := E.2.1; simpa using this
theorem Env.pop (E : Env K I H σ Γ (o :: ρ) (c :: Θ)) : Env K I H σ Γ ρ Θ := ⟨E.1, E.len, E.unstack.tail⟩
theorem Env.top {α : Type} [Rep α] {a : α} (E : Env K I H σ Γ (o :: ρ) (.im a :: Θ)) : ∃ v, o = some v ∧ Rep.rp K I v a := E.unstack.get
theorem Env.topR {α : Type} [Rep α] {a : α} (E : Env K I H σ Γ (some v :: ρ) (.im a :: Θ)) : Rep.rp K I v a := by
  obtain ⟨w, e, r⟩ := E.top
  cases e
  exact r
theorem Env.grow (g : Grow I H I' H') (E : Env K I H σ Γ ρ Θ) : Env K I' H' σ Γ ρ Θ := ⟨E.1, E.2.1, E.2.2.grow g⟩
theorem Env.newL {α : Type} [Rep α] {p : Addr} {vs : List V} {xs : List α} (E : Env K I H σ Γ ρ Θ) (hp : H p = none) (r : Paired (fun v x => Rep.rp K I v x) vs xs) : Env K I (upd H p (.lst vs)) σ Γ (some (.ref p) :: ρ) (.own xs :: Θ) :=
  E.toStack (E.2.2.newL hp r)
/-- the top of the stack to a slot -/
theorem Env.store (E : Env K I H σ Γ (o :: ρ) (c :: Θ)) (hi : i < Γ.length) (hΓ : Γ.set i c = Γ') : Env K I H (σ.set i o) Γ' ρ Θ := by
  subst hΓ
  have h : Γ[i]? = some Γ[i] := List.getElem?_eq_getElem hi
  obtain ⟨o1, ho⟩ := Env.slot E h
  obtain ⟨r, p1, p2⟩ := perm_at (zip_at ho h)
  refine ⟨by simp [E.1], E.len, ?_⟩
  rw [zip_set]
  have q := E.unstack
  have q2 : EnvL K I H ((o1, Γ[i]) :: ((o, c) :: (r ++ ρ.zip Θ))) := q.perm (((p1.append_right _).cons _).trans (.swap _ _ _))
  exact q2.tail.perm ((p2 (o, c)).symm.append_right (ρ.zip Θ))
theorem Env.setS {α : Type} [Sca α] {a : α} (E : Env K I H σ Γ ρ Θ) (ok : Sca.okv a) (hi : i < Γ.length) (hΓ : Γ.set i (.im a) = Γ') : Env K I H (σ.set i (some (Sca.enc a))) Γ' ρ Θ := (E.pushS ok).store hi hΓ
/-- an owned list at a slot -/
theorem Env.ownAt {α : Type} [Rep α] {xs : List α} {pn : Option V} (E : Env K I H σ Γ ρ Θ) (h : Γ[i]? = some (.own xs pn)) : ∃ p vs, σ[i]? = some (some (.ref p)) ∧ H p = some (.lst vs) ∧ I p = none ∧ Paired (fun v x => Rep.rp K I v x) vs xs ∧
    (∀ {I' H' : Hp}, Grow I H I' H' → ∀ (vs' : List V) {β : Type} [Rep β] (ys : List β), Paired (fun v x => Rep.rp K I' v x) vs' ys → Env K I' (upd H' p (.lst vs')) σ (Γ.set i (.own ys pn)) ρ Θ) ∧
    Env K (upd I p (.lst vs)) H σ (Γ.set i (.im xs)) ρ Θ := by
  obtain ⟨o, r, ho, e, back⟩ := E.pick h
  obtain ⟨p, vs, e1, hp, pI, q, ch, fz⟩ := e.ownL
  subst e1
  have ss : σ.set i (some (V.ref p)) = σ := set_same ho
  refine ⟨p, vs, ho, hp, pI, q, fun {I' H'} g vs' β _ ys r' => ?_, ?_⟩
  · have z := back _ _ (ch g vs' ys r')
    rw [ss] at z
    exact z
  · have z := back _ _ fz
    rw [ss] at z
    exact z
/-- forgetting -/
def Wk : List Cell → List Cell → Prop
  | [], [] => True
  | c :: Γ, d :: Γ' => (d = .any ∨ c = d) ∧ Wk Γ Γ'
  | _, _ => False
theorem EnvL.weak {es : List Ent} : ∀ {σ : List (Option V)} {Γ Γ' : List Cell}, σ.length = Γ.length → Wk Γ Γ' → EnvL K I H (σ.zip Γ ++ es) → EnvL K I H (σ.zip Γ' ++ es) ∧ σ.length = Γ'.length
  | [], [], [], _, _, h => ⟨h, rfl⟩
  | [], [], _ :: _, _, w, _ => w.elim
  | _ :: _, [], _, l, _, _ => by simp at l
  | [], _ :: _, _, l, _, _ => by simp at l
  | _ :: _, _ :: _, [], _, w, _ => w.elim
  | o :: σ, c :: Γ, d :: Γ', l, w, h => by
    have l' : σ.length = Γ.length := by simpa using l
    rcases w.1 with e | e
    · subst e
      obtain ⟨q, q2⟩ := EnvL.weak l' w.2 h.tail
      exact ⟨q.any, by simp [q2]⟩
    · subst e
      have h2 : EnvL K I H (σ.zip Γ ++ ((o, c) :: es)) := h.perm List.perm_middle.symm
      obtain ⟨q, q2⟩ := EnvL.weak (es := (o, c) :: es) l' w.2 h2
      exact ⟨q.perm List.perm_middle, by simp [q2]⟩
theorem Env.weak (E : Env K I H σ Γ ρ Θ) (w : Wk Γ Γ') : Env K I H σ Γ' ρ Θ := by
  obtain ⟨q, q2⟩ := EnvL.weak E.1 w E.2.2
  exact ⟨q2, E.2.1, q⟩
/-- into a call: the arguments are on the stack, the last one on top -/
theorem Env.enter {vs : List (Option V)} {cs : List Cell} (hl : vs.length = cs.length) (E : Env K I H σ Γ (vs.reverse ++ ρ) (cs.reverse ++ Θ)) : Env K I H vs cs (σ ++ ρ) (Γ ++ Θ) := by
  have l2 := E.2.1
  simp only [List.length_append, List.length_reverse] at l2
  refine ⟨hl, by simp [E.1]; omega, ?_⟩
  have q := E.2.2
  rw [List.zip_append (by simp [hl])] at q
  rw [List.zip_append E.1]
  have e : vs.reverse.zip cs.reverse = (vs.zip cs).reverse := (List.reverse_zipWith hl).symm
  rw [e] at q
  refine q.perm ?_
  have p1 : (σ.zip Γ ++ ((vs.zip cs).reverse ++ ρ.zip Θ)).Perm ((vs.zip cs).reverse ++ (σ.zip Γ ++ ρ.zip Θ)) := by
    rw [← List.append_assoc, ← List.append_assoc]
    exact List.perm_append_comm.append_right _
  exact p1.trans ((List.reverse_perm _).append_right _)
theorem EnvL.drop {es : List Ent} : ∀ {l : List Ent}, EnvL K I H (l ++ es) → EnvL K I H es
  | [], h => h
  | _ :: l, h => EnvL.drop (l := l) h.tail
/-- out of a call: its parameters are gone, its value on the stack -/
theorem Env.leave {vs : List (Option V)} {cs : List Cell} (hl : σ.length = Γ.length) (E : Env K I H vs cs (o :: (σ ++ ρ)) (c :: (Γ ++ Θ))) : Env K I H σ Γ (o :: ρ) (c :: Θ) := by
  have q : EnvL K I H ((o, c) :: ((σ ++ ρ).zip (Γ ++ Θ))) := EnvL.drop E.2.2
  have l2 := E.2.1
  simp only [List.length_cons, List.length_append] at l2
  rw [List.zip_append hl] at q
  exact ⟨hl, by simp; omega, q.perm List.perm_middle.symm⟩
theorem Env.leave0 {vs : List (Option V)} {cs : List Cell} (hl : σ.length = Γ.length) (E : Env K I H vs cs (σ ++ ρ) (Γ ++ Θ)) : Env K I H σ Γ ρ Θ := by
  have q : EnvL K I H ((σ ++ ρ).zip (Γ ++ Θ)) := EnvL.drop E.2.2
  have l2 := E.2.1
  simp only [List.length_append] at l2
  rw [List.zip_append hl] at q
  exact ⟨hl, by omega, q⟩
/-- the locals that a def has beside its parameters -/
theorem Env.locals {n : Nat} (E : Env K I H σ Γ ρ Θ) : Env K I H (σ ++ List.replicate n none) (Γ ++ List.replicate n .any) ρ Θ := by
  refine ⟨by simp [E.1], E.2.1, ?_⟩
  rw [List.zip_append E.1]
  have all : ∀ n, EnvL K I H ((List.replicate n (none : Option V)).zip (List.replicate n Cell.any) ++ (σ.zip Γ ++ ρ.zip Θ)) := by
    intro n
    induction n with
    | zero => exact E.2.2
    | succ n ih => exact ih.any
  have q := all n
  refine q.perm ?_
  rw [← List.append_assoc]
  exact List.perm_append_comm.append_right _
end
end M
namespace M
open PySem PySem.Spec PyProof.Rows L2

/-! ### wishes kept together, for unification -/
def OpG (r : R2) (x y : V) (H : Hp) (Q : VK) : Prop := r x y H Q
def UnG (r : V → Hp → VK → Prop) (x : V) (H : Hp) (Q : VK) : Prop := r x H Q
def CbG (r : List V → Hp → VK → Prop) (xs : List V) (H : Hp) (Q : VK) : Prop := r xs H Q
def LsG (vs : List V) (H : Hp) (Q : VK) : Prop := vs.length ≤ sizeLine ∧ ∀ p, H p = none → Q (.ref p) (upd H p (.lst vs))
def NotG (v : V) (H : Hp) (Q : VK) : Prop := ∃ c, v = .bl c ∧ Q (.bl (!c)) H
def LcG (J : It) (g : TG) (tt : TT) (te : TE) (is : List Nat) (σ : L2.St) (H : Hp) (Q : VK) : Prop := ∀ D, H D = none → ∃ W : Nat → Nat → Hp → Prop, (∃ m, W 0 m (upd H D (.lst []))) ∧ ∀ i' m H, W i' m H →
      (J.stop i' H ∧ Q (.ref D) H) ∨ (J.go i' H ∧ ∃ Nx : Hp → Prop, (∀ H', Nx H' → ∃ m', m' < m ∧ W (i' + 1) m' H') ∧ ∀ x H', J.yld i' H x H' → g x (wipe σ is) H' fun σ2 H2 => wipe σ2 is = wipe σ is ∧ tt σ2 H2 fun b H3 =>
        if b = true then te σ2 H3 fun y H4 => ∃ acc, H4 D = some (.lst acc) ∧ acc.length < sizeLine ∧ Nx (upd H4 D (.lst (acc ++ [y]))) else Nx H3)
/-! ### heap-free expressions and tests -/
abbrev enc {α : Type} [Sca α] (a : α) : V := Sca.enc a
abbrev okv {α : Type} [Sca α] (a : α) : Prop := Sca.okv a
structure HF (K : PySem.W.Frag) (te : TE) (Γ : List Cell) {α : Type} [Sca α] (m : Res α) : Prop where
  run : ∀ {I H : Hp} {σ ρ : List (Option V)} {Θ : List Cell} (X : Exn → Prop) (Q : VK), Env K I H σ Γ ρ Θ → wp m (fun x => okv x → Q (enc x) H) X → te σ H Q
structure HT (K : PySem.W.Frag) (tt : TT) (Γ : List Cell) (m : Res Bool) : Prop where
  run : ∀ {I H : Hp} {σ ρ : List (Option V)} {Θ : List Cell} (X : Exn → Prop) (Q : Bool → Hp → Prop), Env K I H σ Γ ρ Θ → wp m (fun x => Q x H) X → tt σ H Q
structure HR (r : R2) {α β γ : Type} [Sca α] [Sca β] [Sca γ] (x : α) (y : β) (m : Res γ) : Prop where
  run : ∀ {H : Hp} (X : Exn → Prop) (Q : VK), okv x → okv y → wp m (fun z => okv z → Q (enc z) H) X → r (enc x) (enc y) H Q
structure HU (r : V → Hp → VK → Prop) {α γ : Type} [Sca α] [Sca γ] (x : α) (m : Res γ) : Prop where
  run : ∀ {H : Hp} (X : Exn → Prop) (Q : VK), okv x → wp m (fun z => okv z → Q (enc z) H) X → r (enc x) H Q
/-- a built-in of one, of two scalars -/
structure HC1 (r : List V → Hp → VK → Prop) {α γ : Type} [Sca α] [Sca γ] (x : α) (m : Res γ) : Prop where
  run : ∀ {H : Hp} (X : Exn → Prop) (Q : VK), okv x → wp m (fun z => okv z → Q (enc z) H) X → r [enc x] H Q
structure HC2 (r : List V → Hp → VK → Prop) {α β γ : Type} [Sca α] [Sca β] [Sca γ] (x : α) (y : β) (m : Res γ) : Prop where
  run : ∀ {H : Hp} (X : Exn → Prop) (Q : VK), okv x → okv y → wp m (fun z => okv z → Q (enc z) H) X → r [enc x, enc y] H Q
theorem wpb {α β : Type} {m : Res α} {f : α → Res β} {P : β → Prop} {X : Exn → Prop} {P' : α → Prop} (h : wp (m.bind f) P X) (k : ∀ a, wp (f a) P X → P' a) : wp m P' X := wp_mono (wp_bind.mp h) k fun _ z => z
section
variable {K : PySem.W.Frag} {Γ : List Cell} {ta tb te : TE} {tt tu : TT} {r : R2} {α β γ : Type} [Sca α] [Sca β] [Sca γ] {i : Nat}
theorem hf_var {a : α} (h : Γ[i]? = some (.im a)) : HF K (tVar i) Γ (.ok a) := .mk fun X Q E q => ⟨_, (E.sca h).1, q (E.sca h).2⟩
theorem hf_c {a : α} {v : V} (h : v = enc a) (ok : okv a) : HF K (tC v) Γ (.ok a) := .mk fun X Q E q => by
  subst h
  exact q ok
theorem hf_pp {x : α} {y : β} {m : Res γ} (hr : HR r x y m) (ha : HF K ta Γ (.ok x)) (hb : HF K tb Γ (.ok y)) : HF K (tOp r ta tb) Γ m := .mk fun X Q E q => ha.run X _ E fun ox => hb.run X _ E fun oy => hr.run X Q ox oy q
theorem hf_pm {x : α} {m2 : Res β} {m : β → Res γ} (hr : ∀ y, HR r x y (m y)) (ha : HF K ta Γ (.ok x)) (hb : HF K tb Γ m2) : HF K (tOp r ta tb) Γ (m2.bind m) := .mk fun X Q E q =>
  ha.run X _ E fun ox => hb.run X _ E (wpb q fun y q oy => (hr y).run X Q ox oy q)
theorem hf_mp {m1 : Res α} {y : β} {m : α → Res γ} (hr : ∀ x, HR r x y (m x)) (ha : HF K ta Γ m1) (hb : HF K tb Γ (.ok y)) : HF K (tOp r ta tb) Γ (m1.bind m) := .mk fun X Q E q =>
  ha.run X _ E (wpb q fun x q ox => hb.run X _ E fun oy => (hr x).run X Q ox oy q)
theorem hf_mm {m1 : Res α} {m2 : Res β} {m : α → β → Res γ} (hr : ∀ x y, HR r x y (m x y)) (ha : HF K ta Γ m1) (hb : HF K tb Γ m2) : HF K (tOp r ta tb) Γ (m1.bind fun x => m2.bind fun y => m x y) := .mk fun X Q E q =>
  ha.run X _ E (wpb q fun x q ox => hb.run X _ E (wpb q fun y q oy => (hr x y).run X Q ox oy q))
theorem hf_up {rU : V → Hp → VK → Prop} {x : α} {m : Res γ} (hr : HU rU x m) (ha : HF K ta Γ (.ok x)) : HF K (tUn rU ta) Γ m := .mk fun X Q E q => ha.run X _ E fun ox => hr.run X Q ox q
theorem hf_um {rU : V → Hp → VK → Prop} {m1 : Res α} {m : α → Res γ} (hr : ∀ x, HU rU x (m x)) (ha : HF K ta Γ m1) : HF K (tUn rU ta) Γ (m1.bind m) := .mk fun X Q E q =>
  ha.run X _ E (wpb q fun x q ox => (hr x).run X Q ox q)
theorem hf_c1p {rc : List V → Hp → VK → Prop} {x : α} {m : Res γ} (hr : HC1 rc x m) (ha : HF K ta Γ (.ok x)) : HF K (tCB rc (tCons ta tNil)) Γ m := .mk fun X Q E q => ha.run X _ E fun ox => hr.run X Q ox q
theorem hf_c1m {rc : List V → Hp → VK → Prop} {m1 : Res α} {m : α → Res γ} (hr : ∀ x, HC1 rc x (m x)) (ha : HF K ta Γ m1) : HF K (tCB rc (tCons ta tNil)) Γ (m1.bind m) := .mk fun X Q E q =>
  ha.run X _ E (wpb q fun x q ox => (hr x).run X Q ox q)
theorem hf_c2p {rc : List V → Hp → VK → Prop} {x : α} {y : β} {m : Res γ} (hr : HC2 rc x y m) (ha : HF K ta Γ (.ok x)) (hb : HF K tb Γ (.ok y)) : HF K (tCB rc (tCons ta (tCons tb tNil))) Γ m := .mk fun X Q E q =>
  ha.run X _ E fun ox => hb.run X _ E fun oy => hr.run X Q ox oy q
theorem hf_c2m {rc : List V → Hp → VK → Prop} {m1 : Res α} {m2 : Res β} {m : α → β → Res γ} (hr : ∀ x y, HC2 rc x y (m x y)) (ha : HF K ta Γ m1) (hb : HF K tb Γ m2) :
    HF K (tCB rc (tCons ta (tCons tb tNil))) Γ (m1.bind fun x => m2.bind fun y => m x y) := .mk fun X Q E q =>
  ha.run X _ E (wpb q fun x q ox => hb.run X _ E (wpb q fun y q oy => (hr x y).run X Q ox oy q))

/-! tests -/
theorem ht_tt {m : Res Bool} (h : HF K te Γ m) : HT K (tTest te) Γ m := .mk fun X Q E q => h.run X _ E (wp_mono q (fun b q _ => ⟨b, rfl, q⟩) fun _ z => z)
theorem ht_B {m : Res Bool} (h : HF K te Γ m) : HT K (tB te) Γ m := .mk fun X Q E q => h.run X _ E (wp_mono q (fun b q _ => ⟨b, rfl, q⟩) fun _ z => z)
theorem ht_not_p {b : Bool} (h : HT K tt Γ (.ok b)) : HT K (tNot tt) Γ (.ok (!b)) := .mk fun X Q E q => h.run X _ E q
theorem ht_not_m {m : Res Bool} (h : HT K tt Γ m) : HT K (tNot tt) Γ (m.bind fun b => .ok (!b)) := .mk fun X Q E q => h.run X _ E (wp_bind.mp q)
theorem ht_and_pp {a b : Bool} (h : HT K tt Γ (.ok a)) (h2 : HT K tu Γ (.ok b)) : HT K (tAnd tt tu) Γ (.ok (a && b)) := .mk fun X Q E q => h.run X _ E (by
  cases a with
  | true => exact h2.run X Q E q
  | false => exact q)
theorem ht_or_pp {a b : Bool} (h : HT K tt Γ (.ok a)) (h2 : HT K tu Γ (.ok b)) : HT K (tOr tt tu) Γ (.ok (a || b)) := .mk fun X Q E q => h.run X _ E (by
  cases a with
  | true => exact q
  | false => exact h2.run X Q E q)
theorem ht_and_m {m1 m2 : Res Bool} (h : HT K tt Γ m1) (h2 : HT K tu Γ m2) : HT K (tAnd tt tu) Γ (m1.bind fun a => if a = true then m2 else .ok false) := .mk fun X Q E q => h.run X _ E (wpb q fun a q => by
  cases a with
  | true => exact h2.run X Q E q
  | false => exact q)
theorem ht_or_m {m1 m2 : Res Bool} (h : HT K tt Γ m1) (h2 : HT K tu Γ m2) : HT K (tOr tt tu) Γ (m1.bind fun a => if a = true then .ok true else m2) := .mk fun X Q E q => h.run X _ E (wpb q fun a q => by
  cases a with
  | true => exact q
  | false => exact h2.run X Q E q)
theorem ht_and_pm {a : Bool} {m2 : Res Bool} (h : HT K tt Γ (.ok a)) (h2 : HT K tu Γ m2) : HT K (tAnd tt tu) Γ (if a = true then m2 else .ok false) := .mk fun X Q E q => h.run X _ E (by
  cases a with
  | true => exact h2.run X Q E q
  | false => exact q)
theorem ht_or_pm {a : Bool} {m2 : Res Bool} (h : HT K tt Γ (.ok a)) (h2 : HT K tu Γ m2) : HT K (tOr tt tu) Γ (if a = true then .ok true else m2) := .mk fun X Q E q => h.run X _ E (by
  cases a with
  | true => exact q
  | false => exact h2.run X Q E q)
/-! and, or, not, if-else as values -/
theorem hf_and_pp {a b : Bool} (h : HF K ta Γ (.ok a)) (h2 : HF K tb Γ (.ok b)) : HF K (tAndV ta tb) Γ (.ok (a && b)) := .mk fun X Q E q => h.run X _ E fun _ => ⟨a, rfl, by
  cases a with
  | true => exact h2.run X Q E q
  | false => exact q trivial⟩
theorem hf_or_pp {a b : Bool} (h : HF K ta Γ (.ok a)) (h2 : HF K tb Γ (.ok b)) : HF K (tOrV ta tb) Γ (.ok (a || b)) := .mk fun X Q E q => h.run X _ E fun _ => ⟨a, rfl, by
  cases a with
  | true => exact q trivial
  | false => exact h2.run X Q E q⟩
theorem hf_and_pm {a : Bool} {m2 : Res Bool} (h : HF K ta Γ (.ok a)) (h2 : HF K tb Γ m2) : HF K (tAndV ta tb) Γ (if a = true then m2 else .ok false) := .mk fun X Q E q => h.run X _ E fun _ => ⟨a, rfl, by
  cases a with
  | true => exact h2.run X Q E q
  | false => exact q trivial⟩
theorem hf_or_pm {a : Bool} {m2 : Res Bool} (h : HF K ta Γ (.ok a)) (h2 : HF K tb Γ m2) : HF K (tOrV ta tb) Γ (if a = true then .ok true else m2) := .mk fun X Q E q => h.run X _ E fun _ => ⟨a, rfl, by
  cases a with
  | true => exact q trivial
  | false => exact h2.run X Q E q⟩
theorem hf_and_m {m1 m2 : Res Bool} (h : HF K ta Γ m1) (h2 : HF K tb Γ m2) : HF K (tAndV ta tb) Γ (m1.bind fun a => if a = true then m2 else .ok false) := .mk fun X Q E q => h.run X _ E (wpb q fun a q _ => ⟨a, rfl, by
  cases a with
  | true => exact h2.run X Q E q
  | false => exact q trivial⟩)
theorem hf_or_m {m1 m2 : Res Bool} (h : HF K ta Γ m1) (h2 : HF K tb Γ m2) : HF K (tOrV ta tb) Γ (m1.bind fun a => if a = true then .ok true else m2) := .mk fun X Q E q => h.run X _ E (wpb q fun a q _ => ⟨a, rfl, by
  cases a with
  | true => exact q trivial
  | false => exact h2.run X Q E q⟩)
theorem hf_not_p {b : Bool} (h : HF K ta Γ (.ok b)) : HF K (tNotV ta) Γ (.ok (!b)) := .mk fun X Q E q => h.run X _ E fun _ => ⟨b, rfl, q trivial⟩
theorem hf_not_m {m : Res Bool} (h : HF K ta Γ m) : HF K (tNotV ta) Γ (m.bind fun b => .ok (!b)) := .mk fun X Q E q => h.run X _ E (wpb q fun b q _ => ⟨b, rfl, q trivial⟩)
theorem hf_if_p {b : Bool} {x y : α} (h : HT K tt Γ (.ok b)) (h1 : HF K ta Γ (.ok x)) (h2 : HF K tb Γ (.ok y)) : HF K (tIf tt ta tb) Γ (.ok (if b = true then x else y)) := .mk fun X Q E q => h.run X _ E (by
  cases b with
  | true => exact h1.run X Q E q
  | false => exact h2.run X Q E q)
theorem hf_if_m {m : Res Bool} {m1 m2 : Res α} (h : HT K tt Γ m) (h1 : HF K ta Γ m1) (h2 : HF K tb Γ m2) : HF K (tIf tt ta tb) Γ (m.bind fun b => if b = true then m1 else m2) := .mk fun X Q E q => h.run X _ E (wpb q fun b q => by
  cases b with
  | true => exact h1.run X Q E q
  | false => exact h2.run X Q E q)
/-- chains a op b op c -/
theorem hf_chain {δ : Type} [Sca δ] {r' : R2} {tc : TE} {x : α} {y : β} {z : δ} {b c : Bool} (hr : HR r x y (.ok b)) (hr' : HR r' y z (.ok c)) (ha : HF K ta Γ (.ok x)) (hb : HF K tb Γ (.ok y)) (hc : HF K tc Γ (.ok z)) :
    HF K (tChain r r' ta tb tc) Γ (.ok (b && c)) := .mk fun X Q E q => ha.run X _ E fun ox => hb.run X _ E fun oy => hr.run X _ ox oy fun _ => ⟨b, rfl, by
  cases b with
  | true => exact hc.run X _ E fun oz => hr'.run X Q oy oz q
  | false => exact q trivial⟩
end

/-! ### ints -/
noncomputable def mulI (x y : Int) : Res Int := clo (if x.natAbs.log2 + y.natAbs.log2 < 1000000 then .ok (x * y) else .bad)
def modI (x y : Int) : Res Int := if 0 < y then .ok (x % y) else .bad
noncomputable def divI (x y : Int) : Res Int := clo (if 0 < y ∧ y.natAbs.log2 < 9000 then .ok (x / y) else .bad)
def powI (x y : Int) : Res Int := if 0 ≤ y ∧ ((x.natAbs.log2 + 1 : Nat) : Int) * y ≤ 2 ^ 27 then .ok (x ^ y.toNat) else .bad
def CPowW (i j : Int) : Prop := 0 ≤ j ∧ ((i.natAbs.log2 + 1 : Nat) : Int) * j ≤ 2 ^ 27
theorem op_powW {X : Cx} : OpR X (binaryOp .Pow) (rI CPowW fun i j => .int (i ^ j.toNat)) := opI fun i j _ _ _ _ _ hc q => PyProof.Rows.pow_int hc.1 (by
  have b : Builtin.Int.intBits i ≤ i.natAbs.log2 + 1 := by
    unfold Builtin.Int.intBits
    split <;> omega
  have h1 : ((Builtin.Int.intBits i : Nat) : Int) * j ≤ ((i.natAbs.log2 + 1 : Nat) : Int) * j := Int.mul_le_mul_of_nonneg_right (by omega) hc.1
  exact Int.le_trans h1 hc.2) q
theorem hr_add {x y : Int} : HR (rI0 fun i j => .int (i + j)) x y (.ok (x + y)) := .mk fun X Q _ _ q => ⟨x, y, rfl, rfl, q trivial⟩
theorem hr_sub {x y : Int} : HR (rI0 fun i j => .int (i - j)) x y (.ok (x - y)) := .mk fun X Q _ _ q => ⟨x, y, rfl, rfl, q trivial⟩
theorem hr_mul {x y : Int} : HR (rI CMulW fun i j => .int (i * j)) x y (mulI x y) := .mk fun X Q _ _ q => by
  unfold mulI at q
  rw [clo_eq] at q
  split at q
  · rename_i h
    exact ⟨x, y, rfl, rfl, h, q trivial⟩
  · exact q.elim
theorem hr_mod {x y : Int} : HR (rI (fun _ j => 0 < j) fun i j => .int (i % j)) x y (modI x y) := .mk fun X Q _ _ q => by
  unfold modI at q
  split at q
  · rename_i h
    exact ⟨x, y, rfl, rfl, h, q trivial⟩
  · exact q.elim
theorem hr_div {x y : Int} : HR (rI CDivW fun i j => .int (i / j)) x y (divI x y) := .mk fun X Q _ _ q => by
  unfold divI at q
  rw [clo_eq] at q
  split at q
  · rename_i h
    exact ⟨x, y, rfl, rfl, h, q trivial⟩
  · exact q.elim
theorem hr_pow {x y : Int} : HR (rI CPowW fun i j => .int (i ^ j.toNat)) x y (powI x y) := .mk fun X Q _ _ q => by
  unfold powI at q
  split at q
  · rename_i h
    exact ⟨x, y, rfl, rfl, h, q trivial⟩
  · exact q.elim
theorem hr_lt {x y : Int} : HR (rI0 fun i j => .bl (decide (i < j))) x y (.ok (decide (x < y))) := .mk fun X Q _ _ q => ⟨x, y, rfl, rfl, q trivial⟩
theorem hr_le {x y : Int} : HR (rI0 fun i j => .bl (decide (i ≤ j))) x y (.ok (decide (x ≤ y))) := .mk fun X Q _ _ q => ⟨x, y, rfl, rfl, q trivial⟩
theorem hr_gt {x y : Int} : HR (rI0 fun i j => .bl (decide (j < i))) x y (.ok (decide (y < x))) := .mk fun X Q _ _ q => ⟨x, y, rfl, rfl, q trivial⟩
theorem hr_ge {x y : Int} : HR (rI0 fun i j => .bl (decide (j ≤ i))) x y (.ok (decide (y ≤ x))) := .mk fun X Q _ _ q => ⟨x, y, rfl, rfl, q trivial⟩
theorem dec_congr {p q : Prop} [Decidable p] [Decidable q] (h : p ↔ q) : decide p = decide q := by
  by_cases hp : p
  · rw [decide_eq_true hp, decide_eq_true (h.mp hp)]
  · rw [decide_eq_false hp, decide_eq_false (fun z => hp (h.mpr z))]
theorem hr_eq_of {α : Type} [Sca α] [DecidableEq α] {x y : α} (hs : scal (enc x) (enc y) = true) (hi : (enc x : V) = enc y → x = y) : HR rEq x y (.ok (decide (x = y))) := .mk fun X Q _ _ q => ⟨hs, by
  have e : decide ((Sca.enc x : V) = Sca.enc y) = decide (x = y) := dec_congr ⟨hi, fun h => by rw [h]⟩
  rw [e]
  exact q trivial⟩
theorem hr_ne_of {α : Type} [Sca α] [DecidableEq α] {x y : α} (hs : scal (enc x) (enc y) = true) (hi : (enc x : V) = enc y → x = y) : HR rNe x y (.ok (!decide (x = y))) := .mk fun X Q _ _ q => ⟨hs, by
  have e : decide ((Sca.enc x : V) = Sca.enc y) = decide (x = y) := dec_congr ⟨hi, fun h => by rw [h]⟩
  rw [e]
  exact q trivial⟩
theorem hr_eqI {x y : Int} : HR rEq x y (.ok (decide (x = y))) := hr_eq_of rfl fun h => V.int.inj h
theorem hr_neI {x y : Int} : HR rNe x y (.ok (!decide (x = y))) := hr_ne_of rfl fun h => V.int.inj h
theorem hr_eqB {x y : Bool} : HR rEq x y (.ok (decide (x = y))) := hr_eq_of rfl fun h => V.bl.inj h
theorem hr_neB {x y : Bool} : HR rNe x y (.ok (!decide (x = y))) := hr_ne_of rfl fun h => V.bl.inj h
theorem hu_neg {x : Int} : HU (rU fun i => .int (-i)) x (.ok (-x)) := .mk fun X Q _ q => ⟨x, rfl, q trivial⟩
theorem hc_abs {x : Int} : HC1 (fun xs H Q => ∃ i, xs = [V.int i] ∧ Q (.int (if i < 0 then -i else i)) H) x (.ok (if x < 0 then -x else x)) := .mk fun X Q _ q => ⟨x, rfl, q trivial⟩
theorem hc_int {x : Int} : HC1 (fun xs H Q => (∃ i, xs = [V.int i] ∧ Q (.int i) H) ∨ ∃ k, xs = [.bl k] ∧ Q (.int (if k then 1 else 0)) H) x (.ok x) := .mk fun X Q _ q => .inl ⟨x, rfl, q trivial⟩
theorem hc_intB {x : Bool} : HC1 (fun xs H Q => (∃ i, xs = [V.int i] ∧ Q (.int i) H) ∨ ∃ k, xs = [.bl k] ∧ Q (.int (if k then 1 else 0)) H) x (.ok (if x = true then 1 else (0 : Int))) := .mk fun X Q _ q => .inr ⟨x, rfl, q trivial⟩
theorem hc_max {x y : Int} : HC2 (fun xs H Q => ∃ i j, xs = [V.int i, .int j] ∧ Q (.int (if j > i then j else i)) H) x y (.ok (max x y)) := .mk fun X Q _ _ q => ⟨x, y, rfl, by
  have e : (if y > x then y else x) = max x y := by
    rw [Int.max_def]
    split <;> split <;> omega
  rw [e]
  exact q trivial⟩
theorem hc_min {x y : Int} : HC2 (fun xs H Q => ∃ i j, xs = [V.int i, .int j] ∧ Q (.int (if j < i then j else i)) H) x y (.ok (min x y)) := .mk fun X Q _ _ q => ⟨x, y, rfl, by
  have e : (if y < x then y else x) = min x y := by
    rw [Int.min_def]
    split <;> split <;> omega
  rw [e]
  exact q trivial⟩

theorem hf_is {K : PySem.W.Frag} {te : TE} {Γ : List Cell} {α : Type} [Sca α] {m m' : Res α} (h : HF K te Γ m) (e : m = m') : HF K te Γ m' := by rw [← e]; exact h
/-! ### texts -/
theorem mkS_len (w : Tx) : (mkS w).length = List.length w := by simp [mkS, Str.length]
theorem mkS_list (w : Tx) : (mkS w).cps.toList = w := by simp [mkS]
theorem mkS_inj {a b : Tx} (h : mkS a = mkS b) : a = b := by
  have e := congrArg (fun s => s.cps.toList) h
  simp only [mkS_list] at e
  exact e
theorem mkS_app (a b : Tx) : mkS a ++ mkS b = mkS (a ++ b) := by
  apply ext_toList
  show (Array.append (mkS a).cps (mkS b).cps).toList = _
  simp [mkS]
theorem hr_eqT {x y : Tx} : HR rEq x y (.ok (decide (x = y))) := hr_eq_of rfl fun h => mkS_inj (V.str.inj h)
theorem hr_neT {x y : Tx} : HR rNe x y (.ok (!decide (x = y))) := hr_ne_of rfl fun h => mkS_inj (V.str.inj h)
noncomputable def xCat (a b : Tx) : Res Tx := clo (if a.length + b.length ≤ line then .ok (a ++ b) else .bad)
def xGet (w : Tx) (i : Int) : Res Tx := match atI w i with | some c => .ok [c] | none => .bad
def cutL {α : Type} (xs : List α) (lo hi : Option Int) : List α := (xs.drop (HT.sIx xs.length 0 lo)).take (HT.sIx xs.length xs.length hi - HT.sIx xs.length 0 lo)
theorem cutL_len {α : Type} (xs : List α) (lo hi : Option Int) : (cutL xs lo hi).length ≤ xs.length := by
  unfold cutL
  rw [List.length_take, List.length_drop]
  omega
theorem hr_catT {x y : Tx} : HR (fun x y H Q => ∃ i j, x = V.str i ∧ y = V.str j ∧ i.length + j.length ≤ sizeLine ∧ Q (.str (i ++ j)) H) x y (xCat x y) := .mk fun X Q _ _ q => by
  unfold xCat at q
  rw [clo_eq] at q
  split at q
  · rename_i h
    refine ⟨mkS x, mkS y, rfl, rfl, by rw [mkS_len, mkS_len, ← line_eq]; exact h, ?_⟩
    rw [mkS_app]
    exact q (by show (x ++ y).length ≤ line; rw [List.length_append]; exact h)
  · exact q.elim
def xLt (a b : Tx) : Bool := decide (a < b)
def xGt (a b : Tx) : Bool := decide (b < a)
def xLe (a b : Tx) : Bool := !decide (b < a)
def xGe (a b : Tx) : Bool := !decide (a < b)
theorem hr_ltT {x y : Tx} : HR (fun x y H Q => ∃ i j, x = V.str i ∧ y = V.str j ∧ Q (.bl (decide (i.cps.toList < j.cps.toList))) H) x y (.ok (xLt x y)) := .mk fun X Q _ _ q => ⟨mkS x, mkS y, rfl, rfl, by
  rw [mkS_list, mkS_list]
  exact q trivial⟩
theorem hr_gtT {x y : Tx} : HR (fun x y H Q => ∃ i j, x = V.str i ∧ y = V.str j ∧ Q (.bl (decide (j.cps.toList < i.cps.toList))) H) x y (.ok (xGt x y)) := .mk fun X Q _ _ q => ⟨mkS x, mkS y, rfl, rfl, by
  rw [mkS_list, mkS_list]
  exact q trivial⟩
theorem hr_leT {x y : Tx} : HR (fun x y H Q => ∃ i j, x = V.str i ∧ y = V.str j ∧ Q (.bl (!decide (j.cps.toList < i.cps.toList))) H) x y (.ok (xLe x y)) := .mk fun X Q _ _ q => ⟨mkS x, mkS y, rfl, rfl, by
  rw [mkS_list, mkS_list]
  exact q trivial⟩
theorem hr_geT {x y : Tx} : HR (fun x y H Q => ∃ i j, x = V.str i ∧ y = V.str j ∧ Q (.bl (!decide (i.cps.toList < j.cps.toList))) H) x y (.ok (xGe x y)) := .mk fun X Q _ _ q => ⟨mkS x, mkS y, rfl, rfl, by
  rw [mkS_list, mkS_list]
  exact q trivial⟩
theorem one_ok (c : Nat) : okv ([c] : Tx) := by show 1 ≤ line; decide
theorem hr_getT {x : Tx} {i : Int} : HR rIxS x i (xGet x i) := .mk fun X Q ox _ q => by
  unfold xGet at q
  cases e : atI x i with
  | none => rw [e] at q; exact q.elim
  | some c =>
    rw [e] at q
    exact ⟨mkS x, i, c, rfl, rfl, by rw [mkS_len, ← line_eq]; exact ox, by rw [mkS_list]; exact e, q (one_ok c)⟩
theorem hc_lenT {x : Tx} : HC1 (fun xs H Q => ∃ z : Str, xs = [V.str z] ∧ z.length ≤ sizeLine ∧ Q (.int z.length) H) x (.ok ((x.length : Nat) : Int)) := .mk fun X Q ox q =>
  ⟨mkS x, rfl, by rw [mkS_len, ← line_eq]; exact ox, by rw [mkS_len]; exact q trivial⟩
/-- slices of texts -/
structure HSl (K : PySem.W.Frag) (to : TO) (Γ : List Cell) (m : Res (Option Int)) : Prop where
  run : ∀ {I H : Hp} {σ ρ : List (Option V)} {Θ : List Cell} (X : Exn → Prop) (Q : Option Int → Hp → Prop), Env K I H σ Γ ρ Θ → wp m (fun x => Q x H) X → to σ H Q
section
variable {K : PySem.W.Frag} {Γ : List Cell} {te : TE} {tl th : TO}
theorem ho_none : HSl K tNoPart Γ (.ok none) := .mk fun X Q E q => q
theorem ho_p {i : Int} (h : HF K te Γ (.ok i)) : HSl K (tPart te) Γ (.ok (some i)) := .mk fun X Q E q => h.run X _ E fun _ => ⟨i, rfl, q⟩
theorem ho_m {m : Res Int} (h : HF K te Γ m) : HSl K (tPart te) Γ (m.bind fun i => .ok (some i)) := .mk fun X Q E q => h.run X _ E (wpb q fun i q _ => ⟨i, rfl, q⟩)
theorem cutS_mk (w : Tx) (lo hi : Option Int) : cutS (mkS w) lo hi = mkS (cutL w lo hi) := by
  unfold cutS cutL
  rw [mkS_list, mkS_len]
  rfl
theorem hf_cut_p {w : Tx} {lo hi : Option Int} (h : HF K te Γ (.ok w)) (hl : HSl K tl Γ (.ok lo)) (hh : HSl K th Γ (.ok hi)) : HF K (tSl rSlS te tl th) Γ (.ok (cutL w lo hi)) := .mk fun X Q E q =>
  h.run X _ E fun ow => hl.run X _ E (hh.run X _ E ⟨mkS w, rfl, by rw [mkS_len, ← line_eq]; exact ow, by rw [cutS_mk]; exact q (Nat.le_trans (cutL_len w lo hi) ow)⟩)
theorem hf_cut_m {m : Res Tx} {ml mh : Res (Option Int)} (h : HF K te Γ m) (hl : HSl K tl Γ ml) (hh : HSl K th Γ mh) : HF K (tSl rSlS te tl th) Γ (m.bind fun w => ml.bind fun lo => mh.bind fun hi => .ok (cutL w lo hi)) := .mk fun X Q E q =>
  h.run X _ E (wpb q fun w q ow => hl.run X _ E (wpb q fun lo q => hh.run X _ E (wpb q fun hi q => ⟨mkS w, rfl, by rw [mkS_len, ← line_eq]; exact ow, by rw [cutS_mk]; exact q (Nat.le_trans (cutL_len w lo hi) ow)⟩)))
end
end M
namespace M
open PySem PySem.Spec PyProof.Rows L2

/-! ### control of a mirror -/
inductive Fl (ρ σ : Type) : Type where
  | nx (s : σ) | bk (s : σ) | rt (r : ρ)
inductive Lp (ρ σ : Type) : Type where
  | fin (s : σ) | ret (r : ρ)
def forR {α ρ S : Type} (f : α → S → Res (Fl ρ S)) : List α → S → Res (Lp ρ S)
  | [], s => .ok (.fin s)
  | x :: xs, s => (f x s).bind fun y => match y with
    | .nx s' => forR f xs s'
    | .bk s' => .ok (.fin s')
    | .rt r => .ok (.ret r)
def forS {α S : Type} (f : α → S → Res S) : List α → S → Res S
  | [], s => .ok s
  | x :: xs, s => (f x s).bind fun s' => forS f xs s'
/-- lo, lo + 1, .. below hi -/
def rng (lo hi : Int) : List Int := (List.range (hi - lo).toNat).map fun (i : Nat) => lo + (i : Int)
def RgOk (lo hi : Int) : Prop := -(2 ^ 62) ≤ lo ∧ lo < 2 ^ 62 ∧ -(2 ^ 62) ≤ hi ∧ hi < 2 ^ 62
instance (lo hi : Int) : Decidable (RgOk lo hi) := by unfold RgOk; exact inferInstance
noncomputable def rngR (lo hi : Int) : Res (List Int) := clo (if RgOk lo hi then .ok (rng lo hi) else .bad)
theorem paired_at {α : Type} {f : V → α → Prop} : ∀ {vs : List V} {xs : List α} {i : Nat} {y : V} {x : α}, Paired f vs xs → vs[i]? = some y → xs[i]? = some x → f y x
  | _, _, _, _, _, .nil, h, _ => by simp at h
  | _, _, 0, _, _, .cons r _, h1, h2 => by
    simp at h1 h2
    subst h1 h2
    exact r
  | _, _, i + 1, _, _, .cons _ t, h1, h2 => paired_at (i := i) t (by simpa using h1) (by simpa using h2)
section
variable {K : PySem.W.Frag} {I H I' H' : Hp} {σ σ' ρ : List (Option V)} {Γ Γ' Θ : List Cell} {i j : Nat} {v : V} {c : Cell} {te tl : TE} {tt : TT} {t u : TS} {dn db dc : L2.St → Hp → Prop} {dr : VK} {Q : VK}
variable {ω : Type} {P : ω → Prop} {X : Exn → Prop}
theorem Env.clear (E : Env K I H σ Γ ρ Θ) : Env K I H [] [] ρ Θ := ⟨rfl, E.2.1, EnvL.drop E.2.2⟩

/-! ### expressions onto the stack -/
theorem st_push {α : Type} [Sca α] {x : α} (E : Env K I H σ Γ ρ Θ) (ht : HF K te Γ (.ok x)) (next : Env K I H σ Γ (some (enc x) :: ρ) (.im x :: Θ) → Q (enc x) H) : te σ H Q :=
  ht.run (fun _ => False) Q E fun ok => next (E.pushS ok)
theorem st_pushm {α : Type} [Sca α] {m : Res α} {k : α → Res ω} (E : Env K I H σ Γ ρ Θ) (ht : HF K te Γ m) (h : wp (m.bind k) P X) (next : ∀ x, Env K I H σ Γ (some (enc x) :: ρ) (.im x :: Θ) → wp (k x) P X → Q (enc x) H) : te σ H Q :=
  ht.run X Q E (wpb h fun x q ok => next x (E.pushS ok) q)
theorem st_var {α : Type} [Rep α] {a : α} (E : Env K I H σ Γ ρ Θ) (hΓ : Γ[i]? = some (.im a)) (next : ∀ v, Env K I H σ Γ (some v :: ρ) (.im a :: Θ) → Q v H) : tVar i σ H Q := by
  obtain ⟨v, ho, r⟩ := E.get hΓ
  exact ⟨v, ho, next v (E.push r)⟩
/-! ### statements -/
theorem st_store {Q : L2.St → Hp → Prop} (E : Env K I H σ Γ (some v :: ρ) (c :: Θ)) (hΓ : Γ.set i c = Γ') (hi : i < Γ.length) (next : ∀ σ', Env K I H σ' Γ' ρ Θ → Q σ' H) : gName i v σ H Q := next _ (E.store hi hΓ)
theorem st_set {α : Type} [Sca α] {x : α} (E : Env K I H σ Γ ρ Θ) (ht : HF K te Γ (.ok x)) (hΓ : Γ.set i (.im x) = Γ') (hi : i < Γ.length) (next : ∀ σ', Env K I H σ' Γ' ρ Θ → dn σ' H) : tAsg te (gName i) ⟨dn, dr, db, dc⟩ σ H :=
  st_push E ht fun E => st_store E hΓ hi next
theorem st_setm {α : Type} [Sca α] {m : Res α} {k : α → Res ω} {Γ' : α → List Cell} (E : Env K I H σ Γ ρ Θ) (ht : HF K te Γ m) (h : wp (m.bind k) P X) (hΓ : ∀ x, Γ.set i (.im x) = Γ' x) (hi : i < Γ.length) (next : ∀ x σ', Env K I H σ' (Γ' x) ρ Θ → wp (k x) P X → dn σ' H) : tAsg te (gName i) ⟨dn, dr, db, dc⟩ σ H :=
  st_pushm E ht h fun x E h => st_store E (hΓ x) hi fun σ' E => next x σ' E h
theorem st_ret {α : Type} [Sca α] {x : α} (E : Env K I H σ Γ ρ Θ) (ht : HF K te Γ (.ok x)) (h : ∀ I' H' v, Env K I' H' [] [] (some v :: ρ) (.im x :: Θ) → dr v H') : tRet te ⟨dn, dr, db, dc⟩ σ H :=
  st_push E ht fun E => h _ _ _ E.clear
theorem st_retm {α : Type} [Sca α] {m : Res α} {k : α → Res ω} (E : Env K I H σ Γ ρ Θ) (ht : HF K te Γ m) (h : wp (m.bind k) P X) (next : ∀ x, wp (k x) P X → ∀ I' H' v, Env K I' H' [] [] (some v :: ρ) (.im x :: Θ) → dr v H') : tRet te ⟨dn, dr, db, dc⟩ σ H :=
  st_pushm E ht h fun x E h => next x h _ _ _ E.clear
theorem st_retN (E : Env K I H σ Γ ρ Θ) (h : ∀ I' H' v, Env K I' H' [] [] (some v :: ρ) (.im () :: Θ) → dr v H') : dr .non H := h _ _ _ (E.clear.push ⟨rfl, trivial⟩)
theorem st_if {b : Bool} {m1 m2 : Res ω} (E : Env K I H σ Γ ρ Θ) (ht : HT K tt Γ (.ok b)) (h : wp (if b = true then m1 else m2) P X) (h1 : wp m1 P X → t ⟨dn, dr, db, dc⟩ σ H) (h2 : wp m2 P X → u ⟨dn, dr, db, dc⟩ σ H) : tIfS tt t u ⟨dn, dr, db, dc⟩ σ H :=
  ht.run X _ E (by
    show if b = true then _ else _
    cases b with
    | true => exact h1 h
    | false => exact h2 h)
theorem st_ifm {m : Res Bool} {m1 m2 : Res ω} (E : Env K I H σ Γ ρ Θ) (ht : HT K tt Γ m) (h : wp (m.bind fun b => if b = true then m1 else m2) P X) (h1 : wp m1 P X → t ⟨dn, dr, db, dc⟩ σ H) (h2 : wp m2 P X → u ⟨dn, dr, db, dc⟩ σ H) : tIfS tt t u ⟨dn, dr, db, dc⟩ σ H :=
  ht.run X _ E (wpb h fun b h => by
    show if b = true then _ else _
    cases b with
    | true => exact h1 h
    | false => exact h2 h)
/-- behind an if both ways go on together: s tells the data -/
theorem st_ifj {S : Type} {b : Bool} {m1 m2 : Res S} {k : S → Res ω} (G : S → List Cell) (E : Env K I H σ Γ ρ Θ) (ht : HT K tt Γ (.ok b)) (h : wp ((if b = true then m1 else m2).bind k) P X)
    (h1 : wp m1 (fun s => ∀ I' H' σ', Env K I' H' σ' (G s) ρ Θ → dn σ' H') X → t ⟨dn, dr, db, dc⟩ σ H) (h2 : wp m2 (fun s => ∀ I' H' σ', Env K I' H' σ' (G s) ρ Θ → dn σ' H') X → u ⟨dn, dr, db, dc⟩ σ H)
    (rest : ∀ s I' H' σ', Env K I' H' σ' (G s) ρ Θ → wp (k s) P X → dn σ' H') : tIfS tt t u ⟨dn, dr, db, dc⟩ σ H :=
  ht.run X _ E (by
    show if b = true then _ else _
    cases b with
    | true => exact h1 (wpb h fun s h I' H' σ' E => rest s I' H' σ' E h)
    | false => exact h2 (wpb h fun s h I' H' σ' E => rest s I' H' σ' E h))
theorem st_ifjm {S : Type} {m : Res Bool} {m1 m2 : Res S} {k : S → Res ω} (G : S → List Cell) (E : Env K I H σ Γ ρ Θ) (ht : HT K tt Γ m) (h : wp (m.bind fun b => (if b = true then m1 else m2).bind k) P X)
    (h1 : wp m1 (fun s => ∀ I' H' σ', Env K I' H' σ' (G s) ρ Θ → dn σ' H') X → t ⟨dn, dr, db, dc⟩ σ H) (h2 : wp m2 (fun s => ∀ I' H' σ', Env K I' H' σ' (G s) ρ Θ → dn σ' H') X → u ⟨dn, dr, db, dc⟩ σ H)
    (rest : ∀ s I' H' σ', Env K I' H' σ' (G s) ρ Θ → wp (k s) P X → dn σ' H') : tIfS tt t u ⟨dn, dr, db, dc⟩ σ H :=
  ht.run X _ E (wpb h fun b h => by
    show if b = true then _ else _
    cases b with
    | true => exact h1 (wpb h fun s h I' H' σ' E => rest s I' H' σ' E h)
    | false => exact h2 (wpb h fun s h I' H' σ' E => rest s I' H' σ' E h))
/-- the same where the test's value is at hand -/
theorem st_itej {S : Type} {b : Bool} {m1 m2 : Res S} {k : S → Res ω} (E : Env K I H σ Γ ρ Θ) (G : S → List Cell) (h : wp ((if b = true then m1 else m2).bind k) P X)
    (h1 : wp m1 (fun s => ∀ I' H' σ', Env K I' H' σ' (G s) ρ Θ → dn σ' H') X → t ⟨dn, dr, db, dc⟩ σ H) (h2 : wp m2 (fun s => ∀ I' H' σ', Env K I' H' σ' (G s) ρ Θ → dn σ' H') X → u ⟨dn, dr, db, dc⟩ σ H)
    (rest : ∀ s I' H' σ', Env K I' H' σ' (G s) ρ Θ → wp (k s) P X → dn σ' H') : if b = true then t ⟨dn, dr, db, dc⟩ σ H else u ⟨dn, dr, db, dc⟩ σ H := by
  cases b with
  | true => exact h1 (wpb h fun s h I' H' σ' E => rest s I' H' σ' E h)
  | false => exact h2 (wpb h fun s h I' H' σ' E => rest s I' H' σ' E h)
/-! ### loops -/
/-- what a turn's end means -/
def TurnP {ρτ S : Type} (K : PySem.W.Frag) (G : S → List Cell) (ρ : List (Option V)) (Θ : List Cell) (N B : L2.St → Hp → Prop) (R : ρτ → Prop) : Fl ρτ S → Prop
  | .nx s => ∀ I' H' σ', Env K I' H' σ' (G s) ρ Θ → N σ' H'
  | .bk s => ∀ I' H' σ', Env K I' H' σ' (G s) ρ Θ → B σ' H'
  | .rt r => R r
theorem forR_at {α ρτ S : Type} {f : α → S → Res (Fl ρτ S)} {xs : List α} {s : S} {i : Nat} {x : α} (hx : xs[i]? = some x) : forR f (xs.drop i) s = (f x s).bind fun y => match y with
    | .nx s' => forR f (xs.drop (i + 1)) s'
    | .bk s' => .ok (.fin s')
    | .rt r => .ok (.ret r) := by
  obtain ⟨hi, e⟩ := List.getElem?_eq_some_iff.mp hx
  rw [List.drop_eq_getElem_cons hi, e]
  rfl
/-- the walk J yields xs, as long as the entries ρe, Θe are on the stack -/
structure Feeds (K : PySem.W.Frag) (J : It) {α : Type} [Rep α] (xs : List α) (ρe : List (Option V)) (Θe : List Cell) : Prop where
  len : ρe.length = Θe.length
  go : ∀ {I H : Hp} {σ ρ : List (Option V)} {Γ Θ : List Cell} (i : Nat), Env K I H σ Γ (ρe ++ ρ) (Θe ++ Θ) → i < xs.length → J.go i H
  yld : ∀ {I H : Hp} {σ ρ : List (Option V)} {Γ Θ : List Cell} (i : Nat) (x : V) (H' : Hp) (a : α), Env K I H σ Γ (ρe ++ ρ) (Θe ++ Θ) → xs[i]? = some a → J.yld i H x H' → ∃ I', Grow I H I' H' ∧ Rep.rp K I' x a
  stop : ∀ {I H : Hp} {σ ρ : List (Option V)} {Γ Θ : List Cell} (i : Nat), Env K I H σ Γ (ρe ++ ρ) (Θe ++ Θ) → xs.length ≤ i → J.stop i H
theorem Env.drops : ∀ {ρe : List (Option V)} {Θe : List Cell}, ρe.length = Θe.length → Env K I H σ Γ (ρe ++ ρ) (Θe ++ Θ) → Env K I H σ Γ ρ Θ
  | [], [], _, E => E
  | _ :: _, [], h, _ => by simp at h
  | [], _ :: _, h, _ => by simp at h
  | o :: ρe, c :: Θe, h, E => Env.drops (ρe := ρe) (Θe := Θe) (by simpa using h) (Env.pop E)
/-- a for, its iterator at hand; s: the data that the turns change -/
theorem st_for {α ρτ S : Type} [Rep α] {xs : List α} {J : It} {ρe : List (Option V)} {Θe : List Cell} {g : TG} {tb : TS} {f : α → S → Res (Fl ρτ S)} {k : Lp ρτ S → Res ω} {s0 : S} (hJ : Feeds K J xs ρe Θe) (R : ρτ → Prop) (G : S → List Cell)
    (E : Env K I H σ Γ (ρe ++ ρ) (Θe ++ Θ)) (w : Wk Γ (G s0)) (h : wp ((forR f xs s0).bind k) P X) (ret : ∀ r, wp (k (.ret r)) P X → R r)
    (turn : ∀ x s I' H' σ' y (N B : L2.St → Hp → Prop), Env K I' H' σ' (G s) (some y :: (ρe ++ ρ)) (.im x :: (Θe ++ Θ)) → wp (f x s) (TurnP K G (ρe ++ ρ) (Θe ++ Θ) N B R) X → g y σ' H' fun σ2 H2 => tb ⟨N, dr, B, N⟩ σ2 H2) 
    (rest : ∀ s I' H' σ', Env K I' H' σ' (G s) ρ Θ → wp (k (.fin s)) P X → dn σ' H') :
    ∃ W : Nat → Nat → L2.St → Hp → Prop, (∃ m, W 0 m σ H) ∧ ∀ i m σ H, W i m σ H →
      (J.stop i H ∧ dn σ H) ∨ (J.go i H ∧ ∃ N : L2.St → Hp → Prop, (∀ σ' H', N σ' H' → ∃ m', m' < m ∧ W (i + 1) m' σ' H') ∧ ∀ x H', J.yld i H x H' → g x σ H' fun σ2 H2 => tb ⟨N, dr, dn, N⟩ σ2 H2) := by
  refine ⟨fun i m σ' H' => m = xs.length - i ∧ i ≤ xs.length ∧ ∃ s I', Env K I' H' σ' (G s) (ρe ++ ρ) (Θe ++ Θ) ∧ wp ((forR f (xs.drop i) s).bind k) P X, ⟨xs.length, by simp, Nat.zero_le _, s0, I, E.weak w, h⟩, ?_⟩
  rintro i m σ' H' ⟨rfl, hi, s, I', E', h'⟩
  by_cases hlt : i < xs.length
  · have hx : xs[i]? = some xs[i] := List.getElem?_eq_getElem hlt
    rw [forR_at hx, Res.bind_assoc] at h'
    refine .inr ⟨hJ.go i E' hlt, fun σ2 H2 => ∃ s I', Env K I' H2 σ2 (G s) (ρe ++ ρ) (Θe ++ Θ) ∧ wp ((forR f (xs.drop (i + 1)) s).bind k) P X, fun σ2 H2 z => ⟨xs.length - (i + 1), by omega, rfl, hlt, z⟩, fun y H2 hyl => ?_⟩
    obtain ⟨I2, g2, ry⟩ := hJ.yld i y H2 _ E' hx hyl
    refine turn _ s I2 H2 σ' y _ _ ((E'.grow g2).push ry) (wpb h' fun z q => ?_)
    cases z with
    | nx s' => exact fun I2 H2 σ2 E2 => ⟨s', I2, E2, q⟩
    | bk s' => exact fun I2 H2 σ2 E2 => rest s' I2 H2 σ2 (E2.drops hJ.len) q
    | rt r => exact ret r q
  · have e : i = xs.length := by omega
    subst e
    rw [List.drop_eq_nil_of_le (Nat.le_refl _)] at h'
    exact .inl ⟨hJ.stop _ E' (Nat.le_refl _), rest s I' H' σ' (E'.drops hJ.len) h'⟩
theorem forS_at {α S : Type} {f : α → S → Res S} {xs : List α} {s : S} {i : Nat} {x : α} (hx : xs[i]? = some x) : forS f (xs.drop i) s = (f x s).bind fun s' => forS f (xs.drop (i + 1)) s' := by
  obtain ⟨hi, e⟩ := List.getElem?_eq_some_iff.mp hx
  rw [List.drop_eq_getElem_cons hi, e]
  rfl
/-- a for that is never left early -/
theorem st_forS {α S : Type} [Rep α] {xs : List α} {J : It} {ρe : List (Option V)} {Θe : List Cell} {g : TG} {tb : TS} {f : α → S → Res S} {k : S → Res ω} {s0 : S} (hJ : Feeds K J xs ρe Θe) (G : S → List Cell)
    (E : Env K I H σ Γ (ρe ++ ρ) (Θe ++ Θ)) (w : Wk Γ (G s0)) (h : wp ((forS f xs s0).bind k) P X)
    (turn : ∀ x s I' H' σ' y (N B : L2.St → Hp → Prop), Env K I' H' σ' (G s) (some y :: (ρe ++ ρ)) (.im x :: (Θe ++ Θ)) → wp (f x s) (fun s => ∀ I' H' σ', Env K I' H' σ' (G s) (ρe ++ ρ) (Θe ++ Θ) → N σ' H') X → g y σ' H' fun σ2 H2 => tb ⟨N, dr, B, N⟩ σ2 H2) 
    (rest : ∀ s I' H' σ', Env K I' H' σ' (G s) ρ Θ → wp (k s) P X → dn σ' H') :
    ∃ W : Nat → Nat → L2.St → Hp → Prop, (∃ m, W 0 m σ H) ∧ ∀ i m σ H, W i m σ H →
      (J.stop i H ∧ dn σ H) ∨ (J.go i H ∧ ∃ N : L2.St → Hp → Prop, (∀ σ' H', N σ' H' → ∃ m', m' < m ∧ W (i + 1) m' σ' H') ∧ ∀ x H', J.yld i H x H' → g x σ H' fun σ2 H2 => tb ⟨N, dr, dn, N⟩ σ2 H2) := by
  refine ⟨fun i m σ' H' => m = xs.length - i ∧ i ≤ xs.length ∧ ∃ s I', Env K I' H' σ' (G s) (ρe ++ ρ) (Θe ++ Θ) ∧ wp ((forS f (xs.drop i) s).bind k) P X, ⟨xs.length, by simp, Nat.zero_le _, s0, I, E.weak w, h⟩, ?_⟩
  rintro i m σ' H' ⟨rfl, hi, s, I', E', h'⟩
  by_cases hlt : i < xs.length
  · have hx : xs[i]? = some xs[i] := List.getElem?_eq_getElem hlt
    rw [forS_at hx, Res.bind_assoc] at h'
    refine .inr ⟨hJ.go i E' hlt, fun σ2 H2 => ∃ s I', Env K I' H2 σ2 (G s) (ρe ++ ρ) (Θe ++ Θ) ∧ wp ((forS f (xs.drop (i + 1)) s).bind k) P X, fun σ2 H2 z => ⟨xs.length - (i + 1), by omega, rfl, hlt, z⟩, fun y H2 hyl => ?_⟩
    obtain ⟨I2, g2, ry⟩ := hJ.yld i y H2 _ E' hx hyl
    exact turn _ s I2 H2 σ' y _ _ ((E'.grow g2).push ry) (wpb h' fun s' q I3 H3 σ3 E3 => ⟨s', I3, E3, q⟩)
  · have e : i = xs.length := by omega
    subst e
    rw [List.drop_eq_nil_of_le (Nat.le_refl _)] at h'
    exact .inl ⟨hJ.stop _ E' (Nat.le_refl _), rest s I' H' σ' (E'.drops hJ.len) h'⟩
/-! ### what is walked -/
theorem it_rng0 {R : It → Hp → Prop} {lo : Int} {n : Nat} (next : ∀ J, Feeds K J ((List.range n).map fun (i : Nat) => lo + (i : Int)) [] [] → R J H) : R (Itr lo n) H := by
  refine next _ ⟨rfl, fun i _ hi => (show i < n by simpa using hi), fun {I H} {_ _} {_ _} i x H' a E hx hy => ?_, fun i _ hi => (show n ≤ i by simpa using hi)⟩
  obtain ⟨rfl, rfl⟩ := hy
  refine ⟨I, Grow.refl E.same, ?_⟩
  have hi : i < n := by
    have := (List.getElem?_eq_some_iff.mp hx).1
    simpa using this
  have e : lo + (i : Int) = a := by
    rw [List.getElem?_map, List.getElem?_range hi] at hx
    exact Option.some.inj hx
  exact ⟨by rw [e]; rfl, trivial⟩
theorem it_rng2 {R : It → Hp → Prop} {t1 t2 : TE} {a b : Int} {k : List Int → Res ω} (E : Env K I H σ Γ ρ Θ) (h1 : HF K t1 Γ (.ok a)) (h2 : HF K t2 Γ (.ok b)) (h : wp ((rngR a b).bind k) P X)
    (next : ∀ xs, wp (k xs) P X → ∀ J, Feeds K J xs [] [] → R J H) : iRng2 (tCons t1 (tCons t2 tNil)) σ H R := h1.run X _ E fun _ => h2.run X _ E fun _ => by
  unfold rngR at h
  rw [clo_eq] at h
  by_cases hr : RgOk a b
  · rw [if_pos hr] at h
    exact ⟨a, b, rfl, hr, it_rng0 (next _ h)⟩
  · rw [if_neg hr] at h
    exact h.elim
theorem it_rng2m {R : It → Hp → Prop} {t1 t2 : TE} {m1 m2 : Res Int} {k : List Int → Res ω} (E : Env K I H σ Γ ρ Θ) (h1 : HF K t1 Γ m1) (h2 : HF K t2 Γ m2) (h : wp (m1.bind fun a => m2.bind fun b => (rngR a b).bind k) P X)
    (next : ∀ xs, wp (k xs) P X → ∀ J, Feeds K J xs [] [] → R J H) : iRng2 (tCons t1 (tCons t2 tNil)) σ H R := h1.run X _ E (wpb h fun a h _ => h2.run X _ E (wpb h fun b h _ => by
  unfold rngR at h
  rw [clo_eq] at h
  by_cases hr : RgOk a b
  · rw [if_pos hr] at h
    exact ⟨a, b, rfl, hr, it_rng0 (next _ h)⟩
  · rw [if_neg hr] at h
    exact h.elim))
theorem it_rng1m {R : It → Hp → Prop} {t1 : TE} {m1 : Res Int} {k : List Int → Res ω} (E : Env K I H σ Γ ρ Θ) (h1 : HF K t1 Γ m1) (h : wp (m1.bind fun b => (rngR 0 b).bind k) P X)
    (next : ∀ xs, wp (k xs) P X → ∀ J, Feeds K J xs [] [] → R J H) : iRng1 (tCons t1 tNil) σ H R := h1.run X _ E (wpb h fun b h _ => by
  unfold rngR at h
  rw [clo_eq] at h
  by_cases hr : RgOk 0 b
  · rw [if_pos hr] at h
    have e : (b - 0).toNat = b.toNat := by omega
    unfold rng at h
    rw [e] at h
    exact ⟨b, rfl, hr.2.2.1, hr.2.2.2, it_rng0 (next _ h)⟩
  · rw [if_neg hr] at h
    exact h.elim)
theorem it_rng1 {R : It → Hp → Prop} {t1 : TE} {b : Int} {k : List Int → Res ω} (E : Env K I H σ Γ ρ Θ) (h1 : HF K t1 Γ (.ok b)) (h : wp ((rngR 0 b).bind k) P X)
    (next : ∀ xs, wp (k xs) P X → ∀ J, Feeds K J xs [] [] → R J H) : iRng1 (tCons t1 tNil) σ H R := it_rng1m (m1 := .ok b) E h1 h next
/-- on the stack: the two ends of a range (a call told them) -/
theorem it_list {α : Type} [Rep α] {R : Addr → Prop} {xs : List α} (E : Env K I H σ Γ (some v :: ρ) (.im xs :: Θ)) (next : ∀ a, Feeds K (Itl K a) xs [some v] [.im xs] → R a) :
    ∃ a, v = .ref a ∧ (∃ xs, SqL K H a xs) ∧ R a := by
  obtain ⟨a, vs, e, hq, pr⟩ := E.topR
  subst e
  refine ⟨a, rfl, ⟨vs, SqL.of (E.same _ _ hq)⟩, next _ ⟨rfl, fun {_ _} {_ _} {_ _} i E' hi => ?_, fun {I H} {_ _} {_ _} i x H' b E' hx hy => ?_, fun {_ _} {_ _} {_ _} i E' hi => ?_⟩⟩
  · obtain ⟨a', vs', e', hq', pr'⟩ := E'.topR
    cases e'
    have hl : vs'.length = xs.length := Paired.length pr'
    exact ⟨vs', vs'[i]'(by omega), SqL.of (E'.same _ _ hq'), List.getElem?_eq_getElem (by omega)⟩
  · obtain ⟨a', vs', e', hq', pr'⟩ := E'.topR
    cases e'
    obtain ⟨rfl, hy⟩ := hy
    have hl : vs'.length = xs.length := Paired.length pr'
    exact ⟨I, Grow.refl E'.same, paired_at pr' (hy _ (SqL.of (E'.same _ _ hq'))) hx⟩
  · obtain ⟨a', vs', e', hq', pr'⟩ := E'.topR
    cases e'
    have hl : vs'.length = xs.length := Paired.length pr'
    exact ⟨vs', SqL.of (E'.same _ _ hq'), by omega⟩
theorem it_tup {α : Type} [Rep α] {R : Addr → Prop} {xs : TupL α} (E : Env K I H σ Γ (some v :: ρ) (.im xs :: Θ)) (next : ∀ a, Feeds K (Itt K a) xs.l [some v] [.im xs] → R a) :
    ∃ a, v = .ref a ∧ (∃ xs, SqT K H a xs) ∧ R a := by
  obtain ⟨a, vs, e, hq, pr⟩ := E.topR
  subst e
  refine ⟨a, rfl, ⟨vs, same_seqT E.same hq⟩, next _ ⟨rfl, fun {_ _} {_ _} {_ _} i E' hi => ?_, fun {I H} {_ _} {_ _} i x H' b E' hx hy => ?_, fun {_ _} {_ _} {_ _} i E' hi => ?_⟩⟩
  · obtain ⟨a', vs', e', hq', pr'⟩ := E'.topR
    cases e'
    have hl : vs'.length = xs.l.length := Paired.length pr'
    exact ⟨vs', vs'[i]'(by omega), same_seqT E'.same hq', List.getElem?_eq_getElem (by omega)⟩
  · obtain ⟨a', vs', e', hq', pr'⟩ := E'.topR
    cases e'
    obtain ⟨rfl, hy⟩ := hy
    have hl : vs'.length = xs.l.length := Paired.length pr'
    exact ⟨I, Grow.refl E'.same, paired_at pr' (hy _ (same_seqT E'.same hq')) hx⟩
  · obtain ⟨a', vs', e', hq', pr'⟩ := E'.topR
    cases e'
    have hl : vs'.length = xs.l.length := Paired.length pr'
    exact ⟨vs', same_seqT E'.same hq', by omega⟩
end
/-- a text's signs -/
def chars (w : Tx) : List Tx := w.map fun c => [c]
section
variable {K : PySem.W.Frag} {I H : Hp} {σ ρ : List (Option V)} {Γ Θ : List Cell} {te : TE}
theorem it_str {R : It → Hp → Prop} {w : Tx} (E : Env K I H σ Γ ρ Θ) (ht : HF K te Γ (.ok w)) (next : ∀ J, Feeds K J (chars w) [] [] → R J H) : iStr te σ H R := ht.run (fun _ => False) _ E fun ok => by
  have sz : (mkS w).cps.size = w.length := mkS_len w
  have cl : (chars w).length = w.length := by unfold chars; simp
  refine ⟨mkS w, rfl, next _ ⟨rfl, fun i _ hi => ?_, fun {I H} {_ _} {_ _} i x H' a E' hx hy => ?_, fun i _ hi => ?_⟩⟩
  · show i < (mkS w).cps.size
    omega
  · obtain ⟨rfl, c, hc, rfl⟩ := hy
    refine ⟨I, Grow.refl E'.same, ?_⟩
    have e1 : (mkS w).cps.toList[i]? = some c := by rw [Array.getElem?_toList]; exact hc
    rw [mkS_list] at e1
    have e2 : a = [c] := by
      unfold chars at hx
      rw [List.getElem?_map, e1] at hx
      exact (Option.some.inj hx).symm
    subst e2
    exact ⟨rfl, one_ok c⟩
  · show (mkS w).cps.size ≤ i
    omega
end
theorem forR_nil {α ρ S : Type} {f : α → S → Res (Fl ρ S)} {s : S} : forR f [] s = .ok (.fin s) := rfl
theorem forR_cons {α ρ S : Type} {f : α → S → Res (Fl ρ S)} {s : S} {x : α} {xs : List α} : forR f (x :: xs) s = (f x s).bind fun y => match y with
    | .nx s' => forR f xs s'
    | .bk s' => .ok (.fin s')
    | .rt r => .ok (.ret r) := rfl
theorem forS_nil {α S : Type} {f : α → S → Res S} {s : S} : forS f [] s = .ok s := rfl
theorem forS_cons {α S : Type} {f : α → S → Res S} {s : S} {x : α} {xs : List α} : forS f (x :: xs) s = (f x s).bind fun s' => forS f xs s' := rfl
end M
namespace M
open PySem PySem.Spec PyProof.Rows L2

/-- what an exception bears -/
structure XD where
  fs : List (Str × V)
instance repXD : Rep XD where
  rp K I v x := ∃ d, v = .ref d ∧ I d = some (.xd x.fs)
  mono := fun e ⟨d, e1, h⟩ => ⟨d, e1, e _ _ h⟩
/-! ### promises by mirrors -/
def SpM (K : PySem.W.Frag) (mg : Str → Option Value) {A B : Type} (n : Nat) (cells : A → List Cell) (m : A → Res B) (oc : B → Cell) : Sp := fun vs H Q E =>
  vs.length = n ∧ ∃ (a : A) (I : Hp) (ρ : List (Option V)) (Θ : List Cell), Env K I H (vs.map some) (cells a) ρ Θ ∧
    wp (m a) (fun b => ∀ I' H' v, Env K I' H' [] [] (some v :: ρ) (oc b :: Θ) → Q v H')
      (fun e => ∀ I' H' cls d, mg e.cls = some cls → Env K I' H' [] [] (some (.ref d) :: ρ) (.im (XD.mk e.fs) :: Θ) → E cls (some d) H')
/-- one owned parameter, the first; its data behind the call is told too -/
def SpO (K : PySem.W.Frag) (mg : Str → Option Value) {S A B : Type} [Own S] (n : Nat) (cells : A → List Cell) (m : S → A → Res (B × S)) (oc : B → Cell) : Sp := fun vs H Q E =>
  vs.length = n + 1 ∧ ∃ (s : S) (a : A) (I : Hp) (ρ : List (Option V)) (Θ : List Cell), Env K I H (vs.map some) (.own s vs.head? :: cells a) ρ Θ ∧
    wp (m s a) (fun b => ∀ I' H' v, Env K I' H' [vs.head?] [.own b.2 vs.head?] (some v :: ρ) (oc b.1 :: Θ) → Q v H')
      (fun e => ∀ I' H' cls d, mg e.cls = some cls → Env K I' H' [] [] (some (.ref d) :: ρ) (.im (XD.mk e.fs) :: Θ) → E cls (some d) H')
section
variable {K : PySem.W.Frag} {mg : Str → Option Value} {I H I' H' : Hp} {σ σ' ρ : List (Option V)} {Γ Γ' Θ : List Cell} {i j n : Nat} {v : V} {c : Cell} {te tl : TE} {tt : TT} {t u : TS} {dn db dc : L2.St → Hp → Prop} {dr : VK} {Q : VK} {W : WX}
variable {ω : Type} {P : ω → Prop} {X : Exn → Prop}
/-- the wish about exceptions at slots σ over the frame ρ, Θ -/
def XWish (K : PySem.W.Frag) (mg : Str → Option Value) (W : WX) (σ : List (Option V)) (Γ : List Cell) (ρ : List (Option V)) (Θ : List Cell) (e : Exn) : Prop :=
  ∀ I' H' cls d, mg e.cls = some cls → Env K I' H' σ Γ (some (.ref d) :: ρ) (.im (XD.mk e.fs) :: Θ) → W cls (some d) σ H'
theorem st_call {A B : Type} {cells : A → List Cell} {m : A → Res B} {oc : B → Cell} {vs : List V} (a : A) {k : B → Res ω} (E : Env K I H σ Γ ((vs.map some).reverse ++ ρ) ((cells a).reverse ++ Θ)) (hn : vs.length = n) (hc : (cells a).length = n)
    (h : wp ((m a).bind k) P X) (hX : ∀ e, X e → XWish K mg W σ Γ ρ Θ e)
    (next : ∀ b I' H' v, Env K I' H' σ Γ (some v :: ρ) (oc b :: Θ) → wp (k b) P X → Q v H') : SpM K mg n cells m oc vs H Q (WE W σ) := by
  refine ⟨hn, a, I, σ ++ ρ, Γ ++ Θ, E.enter (by rw [List.length_map, hn, hc]), ?_⟩
  refine wp_mono (wp_bind.mp h) (fun b q I' H' v E' => next b I' H' v (E'.leave E.1) q) fun e x I' H' cls d hm E' => hX e x I' H' cls d hm (E'.leave E.1)
theorem Env.swap {o1 o2 : Option V} {c1 c2 : Cell} (E : Env K I H σ Γ (o1 :: o2 :: ρ) (c1 :: c2 :: Θ)) : Env K I H σ Γ (o2 :: o1 :: ρ) (c2 :: c1 :: Θ) :=
  ⟨E.1, by have := E.2.1; simpa using this, E.2.2.perm ((List.Perm.swap _ _ _).append_left _)⟩
/-- the body's start -/
theorem st_start {N : List Str} {vs : List V} {k : Nat} (E : Env K I H (vs.map some) Γ ρ Θ) (hk : N.length - vs.length = k) : Env K I H (start N vs) (Γ ++ List.replicate k .any) ρ Θ := by
  subst hk
  exact E.locals
/-! ### own exceptions with one field -/
def spIni (C : Addr) (f : Str) : Sp := fun vs H Q _ => ∃ a y, vs = [.ref a, y] ∧ H a = some (exo a C none) ∧ ∀ dx, H dx = none → dx ≠ a → Q .non (upd (upd H dx (exd dx [(f, y)])) a (exo a C (some dx)))
theorem st_raise {α : Type} [Sca α] {C : Addr} {x : Str} {f : Str} {a : α} (E : Env K I H σ Γ ρ Θ) (ht : HF K te Γ (.ok a)) (hC : mg x = some (.ref C)) (h : XWish K mg W σ Γ ρ Θ ⟨x, [(f, enc a)]⟩) :
    tMkO C (spIni C f) [] (tCons te tNil) σ H fun cls d H' => W cls d σ H' :=
  ht.run (fun _ => False) _ E fun ok => by
    refine ⟨by simp, fun p hp => ⟨p, enc a, rfl, upd_same, fun dx hdx ne => ⟨rfl, dx, [(f, enc a)], upd_same, ?_, ?_, ?_⟩⟩⟩
    · rw [upd_ne ne, upd_same]
    · rw [upd_ne ne] at hdx
      exact hdx
    · rw [upd_ne ne] at hdx
      have e : upd (del (upd (upd (upd H p (exo p C none)) dx (exd dx [(f, enc a)])) p (exo p C (some dx))) p) dx (.xd [(f, enc a)]) = upd H dx (.xd [(f, enc a)]) := by
        funext b
        by_cases hb : b = dx
        · rw [hb, upd_same, upd_same]
        · rw [upd_ne hb, upd_ne hb]
          by_cases hp' : b = p
          · rw [hp', del_same, hp]
          · rw [del_ne hp', upd_ne hp', upd_ne hb, upd_ne hp']
      rw [e]
      exact h _ _ (.ref C) dx hC ((E.grow (Grow.newI (u := .xd [(f, enc a)]) E.same hdx)).push ⟨dx, rfl, upd_same⟩)
/-- what the top says of such a class -/
structure ExcTxt (P : Program) (w : World) (K : PySem.W.Frag) (mg : Str → Option Value) (base : Heap) (x f : Str) (C fI : Addr) (fd : FuncData) : Prop where
  gC : mg x = some (.ref C)
  T : OexC K C
  iC : PySem.W.findIn K (.ref C) "__init__" = some (some (.ref fI))
  tI : PySem.W.typeIn K (.ref fI) = some (.type "function")
  ini : FnOk P w K mg base (L2.CX P w) 1 fI fd ["self", f] (spIni C f)
  bI : Binds K fd ["self", f] []
end
end M
namespace M
open PySem PySem.Spec PyProof.Rows L2
section
variable {K : PySem.W.Frag} {mg : Str → Option Value} {I H I' H' : Hp} {σ σ' ρ : List (Option V)} {Γ Γ' Θ : List Cell} {i j n : Nat} {v v1 v2 : V} {c c1 c2 : Cell} {te tl : TE} {tt : TT} {t u : TS} {dn db dc : L2.St → Hp → Prop} {dr : VK} {Q : VK} {W : WX}
variable {ω : Type} {P : ω → Prop} {X : Exn → Prop} {α β γ : Type}
/-! ### operators on the stack -/
theorem Env.topS [Sca α] {a : α} (E : Env K I H σ Γ (some v :: ρ) (.im a :: Θ)) : v = enc a ∧ okv a := E.topR
theorem st_op2 [Sca α] [Sca β] [Sca γ] {r : R2} {x : α} {y : β} {m : Res γ} {k : γ → Res ω} (E : Env K I H σ Γ (some v2 :: some v1 :: ρ) (.im y :: .im x :: Θ)) (hr : HR r x y m) (h : wp (m.bind k) P X)
    (next : ∀ z v, Env K I H σ Γ (some v :: ρ) (.im z :: Θ) → wp (k z) P X → Q v H) : OpG r v1 v2 H Q := by
  obtain ⟨e2, o2⟩ := E.topS
  obtain ⟨e1, o1⟩ := E.pop.topS
  subst e1 e2
  exact hr.run X Q o1 o2 (wpb h fun z q ok => next z _ (E.pop.pop.pushS ok) q)
theorem st_op2p [Sca α] [Sca β] [Sca γ] {r : R2} {x : α} {y : β} {z : γ} (E : Env K I H σ Γ (some v2 :: some v1 :: ρ) (.im y :: .im x :: Θ)) (hr : HR r x y (.ok z))
    (next : ∀ v, Env K I H σ Γ (some v :: ρ) (.im z :: Θ) → Q v H) : OpG r v1 v2 H Q := by
  obtain ⟨e2, o2⟩ := E.topS
  obtain ⟨e1, o1⟩ := E.pop.topS
  subst e1 e2
  exact hr.run (fun _ => False) Q o1 o2 fun ok => next _ (E.pop.pop.pushS ok)
theorem st_un [Sca α] [Sca γ] {r : V → Hp → VK → Prop} {x : α} {m : Res γ} {k : γ → Res ω} (E : Env K I H σ Γ (some v1 :: ρ) (.im x :: Θ)) (hr : HU r x m) (h : wp (m.bind k) P X)
    (next : ∀ z v, Env K I H σ Γ (some v :: ρ) (.im z :: Θ) → wp (k z) P X → Q v H) : UnG r v1 H Q := by
  obtain ⟨e1, o1⟩ := E.topS
  subst e1
  exact hr.run X Q o1 (wpb h fun z q ok => next z _ (E.pop.pushS ok) q)
theorem st_c1 [Sca α] [Sca γ] {r : List V → Hp → VK → Prop} {x : α} {m : Res γ} {k : γ → Res ω} (E : Env K I H σ Γ (some v1 :: ρ) (.im x :: Θ)) (hr : HC1 r x m) (h : wp (m.bind k) P X)
    (next : ∀ z v, Env K I H σ Γ (some v :: ρ) (.im z :: Θ) → wp (k z) P X → Q v H) : CbG r [v1] H Q := by
  obtain ⟨e1, o1⟩ := E.topS
  subst e1
  exact hr.run X Q o1 (wpb h fun z q ok => next z _ (E.pop.pushS ok) q)
theorem st_c2 [Sca α] [Sca β] [Sca γ] {r : List V → Hp → VK → Prop} {x : α} {y : β} {m : Res γ} {k : γ → Res ω} (E : Env K I H σ Γ (some v2 :: some v1 :: ρ) (.im y :: .im x :: Θ)) (hr : HC2 r x y m) (h : wp (m.bind k) P X)
    (next : ∀ z v, Env K I H σ Γ (some v :: ρ) (.im z :: Θ) → wp (k z) P X → Q v H) : CbG r [v1, v2] H Q := by
  obtain ⟨e2, o2⟩ := E.topS
  obtain ⟨e1, o1⟩ := E.pop.topS
  subst e1 e2
  exact hr.run X Q o1 o2 (wpb h fun z q ok => next z _ (E.pop.pop.pushS ok) q)
/-- a truth value on the stack, tested -/
theorem st_tb {b : Bool} {Q : Bool → Hp → Prop} (E : Env K I H σ Γ (some v :: ρ) (.im b :: Θ)) (next : Env K I H σ Γ ρ Θ → Q b H) : ∃ k, v = .bl k ∧ Q k H := by
  obtain ⟨e, _⟩ := E.topS
  exact ⟨b, e, next E.pop⟩
theorem st_ite {b : Bool} {m1 m2 : Res ω} {A B : Prop} (h : wp (if b = true then m1 else m2) P X) (h1 : wp m1 P X → A) (h2 : wp m2 P X → B) : if b = true then A else B := by
  cases b with
  | true => exact h1 h
  | false => exact h2 h
/-- a test whose ways meet -/
theorem st_tj {S : Type} {m : Res (Bool × S)} {k : Bool × S → Res ω} {Q : Bool → Hp → Prop} (E : Env K I H σ Γ ρ Θ) (G : S → List Cell) (h : wp (m.bind k) P X)
    (first : wp m (fun b => ∀ I' H', Env K I' H' σ (G b.2) ρ Θ → Q b.1 H') X → tt σ H Q)
    (rest : ∀ b s I' H', Env K I' H' σ (G s) ρ Θ → wp (k (b, s)) P X → Q b H') : tt σ H Q :=
  first (wpb h fun b q I' H' E => rest b.1 b.2 I' H' E q)
theorem Env.nip {o1 o2 : Option V} (E : Env K I H σ Γ (o1 :: o2 :: ρ) (c1 :: c2 :: Θ)) : Env K I H σ Γ (o1 :: ρ) (c1 :: Θ) := E.swap.pop
/-- a call's value is returned -/
theorem st_retv (E : Env K I H σ Γ (some v :: ρ) (c :: Θ)) (h : ∀ I' H' v, Env K I' H' [] [] (some v :: ρ) (c :: Θ) → dr v H') : dr v H := h _ _ _ E.clear
/-- what a return is to bring -/
def RetP {B : Type} (K : PySem.W.Frag) (ρ : List (Option V)) (Θ : List Cell) (oc : B → Cell) (Q : VK) : B → Prop := fun r => ∀ I' H' v, Env K I' H' [] [] (some v :: ρ) (oc r :: Θ) → Q v H'
def RetO {B S : Type} [Own S] (K : PySem.W.Frag) (ρ : List (Option V)) (Θ : List Cell) (oc : B → Cell) (v0 : V) (Q : VK) : B × S → Prop := fun r => ∀ I' H' v, Env K I' H' [some v0] [.own r.2 (some v0)] (some v :: ρ) (oc r.1 :: Θ) → Q v H'
theorem Env.only {o0 : Option V} {c0 : Cell} : Env K I H σ (c0 :: Γ) ρ Θ → ∃ o0, σ.head? = some o0 ∧ Env K I H [o0] [c0] ρ Θ := fun E => by
  cases σ with
  | nil => have := E.1; simp at this
  | cons o σ =>
    refine ⟨o, rfl, rfl, E.2.1, ?_⟩
    have q : EnvL K I H ((o, c0) :: (σ.zip Γ ++ ρ.zip Θ)) := E.2.2
    have q2 : EnvL K I H (σ.zip Γ ++ ((o, c0) :: ρ.zip Θ)) := q.perm List.perm_middle.symm
    exact EnvL.drop q2
theorem Env.only0 {S : Type} [Own S] {s : S} {v0 : V} (E : Env K I H σ (.own s (some v0) :: Γ) ρ Θ) : Env K I H [some v0] [.own s (some v0)] ρ Θ := by
  obtain ⟨o, _, q⟩ := E.only (o0 := none)
  have z : EnvL K I H ((o, Cell.own s (some v0)) :: ρ.zip Θ) := q.2.2
  obtain ⟨_, fs, h1, _⟩ := id z
  cases fs with
  | nil => exact h1.elim
  | cons f fs =>
    obtain ⟨w, e1, e2, _⟩ := h1.1
    have e1 : o = some w := e1
    subst e1
    have e3 : w = v0 := e2 v0 rfl
    subst e3
    exact q
/-- an owned list is returned -/
theorem st_retO [Own α] {a : α} {pn : Option V} (E : Env K I H σ Γ ρ Θ) (hΓ : Γ[i]? = some (.own a pn)) (h : ∀ I' H' v, Env K I' H' [] [] (some v :: ρ) (.own a pn :: Θ) → dr v H') : tRet (tVar i) ⟨dn, dr, db, dc⟩ σ H := by
  obtain ⟨o, r, ho, e, _⟩ := E.pick hΓ
  obtain ⟨o2, ho2⟩ := E.slot hΓ
  obtain ⟨r2, p1, _⟩ := perm_at (zip_at ho hΓ)
  have z : EnvL K I H ((o, .own a pn) :: (r2 ++ ρ.zip Θ)) := E.2.2.perm (p1.append_right _)
  have z2 : EnvL K I H ((o, .own a pn) :: ρ.zip Θ) := by
    have z3 : EnvL K I H (r2 ++ ((o, .own a pn) :: ρ.zip Θ)) := z.perm List.perm_middle.symm
    exact EnvL.drop z3
  obtain ⟨_, fs, h1, _⟩ := id z
  cases fs with
  | nil => exact h1.elim
  | cons f fs =>
    obtain ⟨w, e1, _, _⟩ := h1.1
    have e1 : o = some w := e1
    subst e1
    exact ⟨w, ho, h I H w ⟨rfl, by simp [E.2.1], z2⟩⟩
/-- an expression's value dropped -/
theorem st_drop (E : Env K I H σ Γ (some v :: ρ) (c :: Θ)) (next : Env K I H σ Γ ρ Θ → dn σ H) : dn σ H := next E.pop
end
end M
namespace M
open PySem PySem.Spec PyProof.Rows L2
section
variable {K : PySem.W.Frag} {mg : Str → Option Value} {I H I' H' : Hp} {σ σ' ρ : List (Option V)} {Γ Γ' Θ : List Cell} {i j n : Nat} {v v1 v2 v3 : V} {c c1 c2 : Cell} {te tl ti : TE} {ta : TA} {tt : TT} {t u : TS} {dn db dc : L2.St → Hp → Prop} {dr : VK} {Q : VK} {W : WX}
variable {pn : Option V} {ω : Type} {P : ω → Prop} {X : Exn → Prop} {α β γ δ : Type}
/-! ### lists: new ones -/
theorem Env.collect [Rep α] : ∀ {xs : List α} {vs : List V}, vs.length = xs.length → Env K I H σ Γ ((vs.map some).reverse ++ ρ) ((xs.map Cell.im).reverse ++ Θ) → Paired (fun v x => Rep.rp K I v x) vs xs ∧ Env K I H σ Γ ρ Θ := by
  intro xs
  induction xs generalizing ρ Θ with
  | nil =>
    intro vs h E
    cases vs with
    | nil => exact ⟨.nil, E⟩
    | cons v vs => simp at h
  | cons x xs ih =>
    intro vs h E
    cases vs with
    | nil => simp at h
    | cons v vs =>
      have e1 : ((v :: vs).map some).reverse ++ ρ = (vs.map some).reverse ++ (some v :: ρ) := by simp
      have e2 : ((x :: xs).map Cell.im).reverse ++ Θ = (xs.map Cell.im).reverse ++ (Cell.im x :: Θ) := by simp
      rw [e1, e2] at E
      obtain ⟨p, E'⟩ := ih (by simpa using h) E
      exact ⟨.cons E'.topR p, E'.pop⟩
theorem Env.newI [Rep α] {p : Addr} {u : HO} {x : α} (E : Env K I H σ Γ ρ Θ) (hp : H p = none) (r : Rep.rp K (upd I p u) (.ref p) x) : Env K (upd I p u) (upd H p u) σ Γ (some (.ref p) :: ρ) (.im x :: Θ) :=
  (E.grow (Grow.newI E.same hp)).push r
theorem Env.same_newI {p : Addr} {u : HO} (E : Env K I H σ Γ ρ Θ) (hp : H p = none) : Same I (upd I p u) := (Grow.newI E.same hp).im
/-- a new list, owned | not to be changed -/
theorem st_newO [Rep α] {vs : List V} {xs : List α} (E : Env K I H σ Γ ρ Θ) (r : Paired (fun v x => Rep.rp K I v x) vs xs) (next : ∀ H' v, Env K I H' σ Γ (some v :: ρ) (.own xs :: Θ) → Q v H') : ∀ p, H p = none → Q (.ref p) (upd H p (.lst vs)) :=
  fun p hp => next _ _ (E.newL hp r)
theorem st_newI [Rep α] {vs : List V} {xs : List α} (E : Env K I H σ Γ ρ Θ) (r : Paired (fun v x => Rep.rp K I v x) vs xs) (next : ∀ I' H' v, Env K I' H' σ Γ (some v :: ρ) (.im xs :: Θ) → Q v H') : ∀ p, H p = none → Q (.ref p) (upd H p (.lst vs)) :=
  fun p hp => next _ _ _ (E.newI hp ⟨p, vs, rfl, upd_same, Paired.monoR (fun _ _ z => Rep.mono (E.same_newI hp) z) r⟩)
theorem line_of {n : Nat} (h : n ≤ line) : n ≤ sizeLine := by rw [← line_eq]; exact h
/-- [a, b, ..] -/
theorem st_lstO [Rep α] (vs : List V) (xs : List α) (hl : vs.length = xs.length) (hz : vs.length ≤ line) (E : Env K I H σ Γ ((vs.map some).reverse ++ ρ) ((xs.map Cell.im).reverse ++ Θ))
    (next : ∀ H' v, Env K I H' σ Γ (some v :: ρ) (.own xs :: Θ) → Q v H') : LsG vs H Q :=
  ⟨line_of hz, st_newO (E.collect hl).2 (E.collect hl).1 next⟩
theorem st_lstI [Rep α] (vs : List V) (xs : List α) (hl : vs.length = xs.length) (hz : vs.length ≤ line) (E : Env K I H σ Γ ((vs.map some).reverse ++ ρ) ((xs.map Cell.im).reverse ++ Θ))
    (next : ∀ I' H' v, Env K I' H' σ Γ (some v :: ρ) (.im xs :: Θ) → Q v H') : LsG vs H Q :=
  ⟨line_of hz, st_newI (E.collect hl).2 (E.collect hl).1 next⟩
/-- an owned list is let be -/
theorem st_freeze [Rep α] {xs : List α} {A : Prop} (E : Env K I H σ Γ ρ Θ) (hΓ : Γ[i]? = some (.own xs pn)) (hs : Γ.set i (.im xs) = Γ') (next : ∀ I', Env K I' H σ Γ' ρ Θ → A) : A := by
  subst hs
  obtain ⟨p, vs, _, _, _, _, _, fz⟩ := E.ownAt hΓ
  exact next _ fz
theorem st_freezeT [Rep α] {xs : List α} {A : Prop} (E : Env K I H σ Γ (some v :: ρ) (.own xs pn :: Θ)) (next : ∀ I', Env K I' H σ Γ (some v :: ρ) (.im xs :: Θ) → A) : A := by
  obtain ⟨p, vs, _, _, _, _, _, fz⟩ := E.unstack.ownL
  exact next _ ((Env.pop E).toStack fz)
/-! ### reading lists -/
def lGet (xs : List α) (i : Int) : Res α := match atI xs i with | some x => .ok x | none => .bad
theorem atI_paired {f : V → α → Prop} {vs : List V} {xs : List α} (p : Paired f vs xs) {i : Int} {x : α} (h : atI xs i = some x) : ∃ v, atI vs i = some v ∧ f v x := by
  have hl : vs.length = xs.length := Paired.length p
  unfold atI at h ⊢
  rw [hl]
  cases e : ixN xs.length i with
  | none => rw [e] at h; cases h
  | some k =>
    rw [e] at h
    have hx : xs[k]? = some x := h
    have hk := (List.getElem?_eq_some_iff.mp hx).1
    have hv : vs[k]? = some (vs[k]'(by omega)) := List.getElem?_eq_getElem (by omega)
    exact ⟨_, hv, paired_at p hv hx⟩
theorem rp_list {K : PySem.W.Frag} [Rep α] {xs : List α} {v : V} (r : Rep.rp K I v xs) : ∃ a vs, v = .ref a ∧ I a = some (.lst vs) ∧ Paired (fun v x => Rep.rp K I v x) vs xs := r
section
variable [Sca α] {xs : List α}
theorem hf_ix_of {m : Res Int} (hv : ∀ {I H : Hp} {σ ρ : List (Option V)} {Θ : List Cell}, Env K I H σ Γ ρ Θ → ∃ a vs, σ[j]? = some (some (.ref a)) ∧ H a = some (.lst vs) ∧ Paired (fun v x => Rep.rp K I v x) vs xs) (hi : HF K ti Γ m) :
    HF K (tOp (rIxL K) (tVar j) ti) Γ (m.bind fun i => lGet xs i) := .mk fun X Q E q => by
  obtain ⟨a, vs, hs, ha, p⟩ := hv E
  refine ⟨_, hs, hi.run X _ E (wpb q fun i q _ => ?_)⟩
  unfold lGet at q
  cases e : atI xs i with
  | none => rw [e] at q; exact q.elim
  | some x =>
    rw [e] at q
    obtain ⟨w, e2, r⟩ := atI_paired p e
    have r' : w = enc x ∧ okv x := r
    refine ⟨a, vs, i, w, rfl, rfl, SqL.of ha, e2, ?_⟩
    rw [r'.1]
    exact q r'.2
theorem Env.listAt [Rep β] {ys : List β} (E : Env K I H σ Γ ρ Θ) (hΓ : Γ[j]? = some (.im ys)) : ∃ a vs, σ[j]? = some (some (.ref a)) ∧ H a = some (.lst vs) ∧ Paired (fun v x => Rep.rp K I v x) vs ys := by
  obtain ⟨v, hs, a, vs, e, ha, p⟩ := E.get hΓ
  subst e
  exact ⟨a, vs, hs, E.same _ _ ha, p⟩
theorem Env.ownAt' [Rep β] {ys : List β} (E : Env K I H σ Γ ρ Θ) (hΓ : Γ[j]? = some (.own ys pn)) : ∃ a vs, σ[j]? = some (some (.ref a)) ∧ H a = some (.lst vs) ∧ Paired (fun v x => Rep.rp K I v x) vs ys := by
  obtain ⟨p, vs, hs, hp, _, r, _⟩ := E.ownAt hΓ
  exact ⟨p, vs, hs, hp, r⟩
theorem hf_ixL (hΓ : Γ[j]? = some (.im xs)) {m : Res Int} (hi : HF K ti Γ m) : HF K (tOp (rIxL K) (tVar j) ti) Γ (m.bind fun i => lGet xs i) := hf_ix_of (fun E => E.listAt hΓ) hi
theorem hf_ixLp (hΓ : Γ[j]? = some (.im xs)) {i : Int} (hi : HF K ti Γ (.ok i)) : HF K (tOp (rIxL K) (tVar j) ti) Γ (lGet xs i) := hf_ixL hΓ hi
theorem hf_ixO (hΓ : Γ[j]? = some (.own xs pn)) {m : Res Int} (hi : HF K ti Γ m) : HF K (tOp (rIxL K) (tVar j) ti) Γ (m.bind fun i => lGet xs i) := hf_ix_of (fun E => E.ownAt' hΓ) hi
theorem hf_ixOp (hΓ : Γ[j]? = some (.own xs pn)) {i : Int} (hi : HF K ti Γ (.ok i)) : HF K (tOp (rIxL K) (tVar j) ti) Γ (lGet xs i) := hf_ixO hΓ hi
end
abbrev rLen2 (K : PySem.W.Frag) : List V → Hp → VK → Prop := fun xs H Q => ∃ p ys, xs = [.ref p] ∧ (SqL K H p ys ∨ SqT K H p ys) ∧ Q (.int ys.length) H
theorem hf_lenL [Rep α] {xs : List α} (hΓ : Γ[j]? = some (.im xs)) : HF K (tCB (rLen2 K) (tCons (tVar j) tNil)) Γ (.ok ((xs.length : Nat) : Int)) := .mk fun X Q E q => by
  obtain ⟨a, vs, hs, ha, p⟩ := E.listAt hΓ
  refine ⟨_, hs, a, vs, rfl, .inl (SqL.of ha), ?_⟩
  have hl : vs.length = xs.length := Paired.length p
  rw [hl]
  exact q trivial
theorem hf_lenO [Rep α] {xs : List α} (hΓ : Γ[j]? = some (.own xs pn)) : HF K (tCB (rLen2 K) (tCons (tVar j) tNil)) Γ (.ok ((xs.length : Nat) : Int)) := .mk fun X Q E q => by
  obtain ⟨a, vs, hs, ha, p⟩ := E.ownAt' hΓ
  refine ⟨_, hs, a, vs, rfl, .inl (SqL.of ha), ?_⟩
  have hl : vs.length = xs.length := Paired.length p
  rw [hl]
  exact q trivial
theorem hf_lenT [Rep α] {xs : TupL α} (hΓ : Γ[j]? = some (.im xs)) : HF K (tCB (rLen2 K) (tCons (tVar j) tNil)) Γ (.ok ((xs.l.length : Nat) : Int)) := .mk fun X Q E q => by
  obtain ⟨v, hs, a, vs, e, ha, p⟩ := E.get hΓ
  subst e
  refine ⟨_, hs, a, vs, rfl, .inr (same_seqT E.same ha), ?_⟩
  have hl : vs.length = xs.l.length := Paired.length p
  rw [hl]
  exact q trivial
/-- len of what is on the stack -/
theorem st_lenL [Rep α] {xs : List α} (E : Env K I H σ Γ (some v :: ρ) (.im xs :: Θ)) (next : ∀ v, Env K I H σ Γ (some v :: ρ) (.im ((xs.length : Nat) : Int) :: Θ) → Q v H) : CbG (rLen2 K) [v] H Q := by
  obtain ⟨a, vs, e, ha, p⟩ := E.topR
  subst e
  have hl : vs.length = xs.length := Paired.length p
  exact ⟨a, vs, rfl, .inl (SqL.of (E.same _ _ ha)), next _ (E.pop.pushS (a := ((vs.length : Nat) : Int)) trivial |> fun z => by rw [← hl]; exact z)⟩
/-- xs[i], both on the stack -/
theorem st_ixL [Rep α] {xs : List α} {i : Int} {k : α → Res ω} (E : Env K I H σ Γ (some v2 :: some v1 :: ρ) (.im i :: .im xs :: Θ)) (h : wp ((lGet xs i).bind k) P X)
    (next : ∀ x v, Env K I H σ Γ (some v :: ρ) (.im x :: Θ) → wp (k x) P X → Q v H) : OpG (rIxL K) v1 v2 H Q := by
  obtain ⟨e2, _⟩ := E.topS
  subst e2
  obtain ⟨a, vs, e, ha, p⟩ := E.pop.topR
  subst e
  unfold lGet at h
  cases e : atI xs i with
  | none => rw [e] at h; exact h.elim
  | some x =>
    rw [e] at h
    obtain ⟨w, e2, r⟩ := atI_paired p e
    exact ⟨a, vs, i, w, rfl, rfl, SqL.of (E.same _ _ ha), e2, next x w (E.pop.pop.push r) h⟩
/-- xs[lo:hi] -/
theorem cutV_cutL (vs : List V) (lo hi : Option Int) : cutV vs lo hi = cutL vs lo hi := rfl
theorem cut_paired {f : V → α → Prop} {vs : List V} {xs : List α} (p : Paired f vs xs) (lo hi : Option Int) : Paired f (cutL vs lo hi) (cutL xs lo hi) := by
  have hl : vs.length = xs.length := Paired.length p
  unfold cutL
  rw [hl]
  have dr : ∀ {vs : List V} {xs : List α} (n : Nat), Paired f vs xs → Paired f (vs.drop n) (xs.drop n) := by
    intro vs xs n q
    induction q generalizing n with
    | nil => simp; exact .nil
    | cons r t ih =>
      cases n with
      | zero => exact .cons r t
      | succ n => exact ih n
  have tk : ∀ {vs : List V} {xs : List α} (n : Nat), Paired f vs xs → Paired f (vs.take n) (xs.take n) := by
    intro vs xs n q
    induction q generalizing n with
    | nil => simp; exact .nil
    | cons r t ih =>
      cases n with
      | zero => exact .nil
      | succ n => exact .cons r (ih n)
  exact tk _ (dr _ p)
theorem st_cutI [Rep α] {xs : List α} {tl th : TO} {ml mh : Res (Option Int)} {k : List α → Res ω} (E : Env K I H σ Γ (some v :: ρ) (.im xs :: Θ)) (hl : HSl K tl Γ ml) (hh : HSl K th Γ mh) (h : wp (ml.bind fun lo => mh.bind fun hi => k (cutL xs lo hi)) P X)
    (next : ∀ ys I' H' v, Env K I' H' σ Γ (some v :: ρ) (.im ys :: Θ) → wp (k ys) P X → Q v H') : tl σ H fun l H2 => th σ H2 fun u H3 => rSlL K v l u H3 Q :=
  hl.run X _ E (wpb h fun lo h => hh.run X _ E (wpb h fun hi h => by
    obtain ⟨a, vs, e, ha, p⟩ := E.topR
    subst e
    exact ⟨a, vs, rfl, SqL.of (E.same _ _ ha), st_newI (Env.pop E) (cut_paired p lo hi) fun I' H' v E' => next _ I' H' v E' h⟩))
theorem st_cutO [Rep α] {xs : List α} {tl th : TO} {ml mh : Res (Option Int)} {k : List α → Res ω} (E : Env K I H σ Γ (some v :: ρ) (.im xs :: Θ)) (hl : HSl K tl Γ ml) (hh : HSl K th Γ mh) (h : wp (ml.bind fun lo => mh.bind fun hi => k (cutL xs lo hi)) P X)
    (next : ∀ ys I' H' v, Env K I' H' σ Γ (some v :: ρ) (.own ys :: Θ) → wp (k ys) P X → Q v H') : tl σ H fun l H2 => th σ H2 fun u H3 => rSlL K v l u H3 Q :=
  hl.run X _ E (wpb h fun lo h => hh.run X _ E (wpb h fun hi h => by
    obtain ⟨a, vs, e, ha, p⟩ := E.topR
    subst e
    exact ⟨a, vs, rfl, SqL.of (E.same _ _ ha), st_newO (Env.pop E) (cut_paired p lo hi) fun H' v E' => next _ _ H' v E' h⟩))
/-! ### changing lists -/
noncomputable def lApp (xs : List α) (x : α) : Res (List α) := clo (if xs.length < line then .ok (xs ++ [x]) else .bad)
theorem paired_app {f : V → α → Prop} {vs ws : List V} {xs ys : List α} (p : Paired f vs xs) (q : Paired f ws ys) : Paired f (vs ++ ws) (xs ++ ys) := by
  induction p with
  | nil => exact q
  | cons r t ih => exact .cons r ih
theorem st_bmO [Rep α] {xs : List α} {r : V → List V → Hp → VK → Prop} (E : Env K I H σ Γ ρ Θ) (hΓ : Γ[i]? = some (.own xs pn)) (next : ∀ l, σ[i]? = some (some (.ref l)) → ta σ H fun vs H2 => r (.ref l) vs H2 Q) : tBM K "list" r (tVar i) ta σ H Q := by
  obtain ⟨p, vs, hs, hp, _⟩ := E.ownAt' hΓ
  exact ⟨_, hs, .inl ⟨rfl, vs, SqL.of hp⟩, next p hs⟩
theorem st_bm0O [Rep α] {xs : List α} {r : V → List V → Hp → VK → Prop} (E : Env K I H σ Γ ρ Θ) (hΓ : Γ[i]? = some (.own xs pn)) (next : ∀ l, σ[i]? = some (some (.ref l)) → r (.ref l) [] H Q) : tBM0 K "list" r (tVar i) σ H Q := by
  obtain ⟨p, vs, hs, hp, _⟩ := E.ownAt' hΓ
  exact ⟨_, hs, .inl ⟨rfl, vs, SqL.of hp⟩, next p hs⟩
theorem st_app [Rep α] {xs : List α} {x : α} {k : List α → Res ω} {l : Addr} (E : Env K I H σ Γ (some v :: ρ) (.im x :: Θ)) (hl : σ[i]? = some (some (.ref l))) (hΓ : Γ[i]? = some (.own xs pn)) (h : wp ((lApp xs x).bind k) P X)
    (next : ∀ ys H', Env K I H' σ (Γ.set i (.own ys pn)) ρ Θ → wp (k ys) P X → Q .non H') : rAppend (.ref l) [v] H Q := by
  obtain ⟨p, vs, hs, hp, _, q, ch, _⟩ := E.ownAt hΓ
  have e : l = p := by
    rw [hl] at hs
    exact V.ref.inj (Option.some.inj (Option.some.inj hs))
  subst e
  have rx := E.topR
  unfold lApp at h
  rw [clo_eq] at h
  by_cases hz : xs.length < line
  · rw [if_pos hz] at h
    have hlen : vs.length = xs.length := Paired.length q
    exact ⟨l, vs, v, rfl, rfl, hp, by rw [hlen, ← line_eq]; exact hz, next _ _ (ch (Grow.refl E.same) _ _ (paired_app q (.cons rx .nil))).pop h⟩
  · rw [if_neg hz] at h
    exact h.elim
end
end M
namespace M
open PySem PySem.Spec PyProof.Rows L2
/-! ### comprehensions with one plain name as target -/
def mapR {α β : Type} (f : α → Res β) : List α → Res (List β)
  | [] => .ok []
  | x :: xs => (f x).bind fun y => (mapR f xs).bind fun ys => .ok (y :: ys)
def filR {α β : Type} (t : α → Res Bool) (f : α → Res β) : List α → Res (List β)
  | [] => .ok []
  | x :: xs => (t x).bind fun b => if b = true then (f x).bind fun y => (filR t f xs).bind fun ys => .ok (y :: ys) else filR t f xs
/-- the length of what is walked is below the line: told once -/
noncomputable def lcR {α β : Type} (t : α → Res Bool) (f : α → Res β) (xs : List α) : Res (List β) := clo (if xs.length ≤ line then filR t f xs else .bad)
noncomputable def lcM {α β : Type} (f : α → Res β) (xs : List α) : Res (List β) := clo (if xs.length ≤ line then mapR f xs else .bad)
theorem mapR_fil {α β : Type} (f : α → Res β) (xs : List α) : mapR f xs = filR (fun _ => .ok true) f xs := by
  induction xs with
  | nil => rfl
  | cons x xs ih =>
    show (f x).bind _ = (f x).bind _
    rw [ih]
theorem lcM_lcR {α β : Type} (f : α → Res β) (xs : List α) : lcM f xs = lcR (fun _ => .ok true) f xs := by
  unfold lcM lcR
  rw [clo_eq, clo_eq, mapR_fil]
section
variable {K : PySem.W.Frag} {mg : Str → Option Value} {I H I' H' : Hp} {σ σ' ρ : List (Option V)} {Γ Γ' Θ : List Cell} {i j n : Nat} {v v1 v2 v3 : V} {c c1 c2 : Cell} {o : Option V} {te tl ti : TE} {ta : TA} {tt : TT} {t u : TS} {dn db dc : L2.St → Hp → Prop} {dr : VK} {Q : VK} {W : WX}
variable {ω : Type} {P : ω → Prop} {X : Exn → Prop} {α β γ δ : Type}
/-- a slot's entry is put aside -/
theorem Env.aside (E : Env K I H σ Γ ρ Θ) (h : Γ[i]? = some c) : ∃ o, σ[i]? = some o ∧ Env K I H (σ.set i none) (Γ.set i .any) (o :: ρ) (c :: Θ) := by
  obtain ⟨o, r, ho, e, back⟩ := E.pick h
  refine ⟨o, ho, ?_⟩
  obtain ⟨o2, ho2⟩ := E.slot h
  obtain ⟨r2, p1, p2⟩ := perm_at (zip_at ho h)
  refine ⟨by simp [E.1], by simp [E.2.1], ?_⟩
  rw [zip_set]
  have q : EnvL K I H ((o, c) :: (r2 ++ ρ.zip Θ)) := E.2.2.perm (p1.append_right _)
  have q2 : EnvL K I H ((none, Cell.any) :: (o, c) :: (r2 ++ ρ.zip Θ)) := q.any
  have pp : ((none, Cell.any) :: (o, c) :: (r2 ++ ρ.zip Θ)).Perm ((σ.zip Γ).set i (none, Cell.any) ++ (o :: ρ).zip (c :: Θ)) := by
    have a1 : ((σ.zip Γ).set i (none, Cell.any) ++ (o :: ρ).zip (c :: Θ)).Perm (((none, Cell.any) :: r2) ++ ((o, c) :: ρ.zip Θ)) := (p2 _).append_right _
    refine List.Perm.trans ?_ a1.symm
    refine List.Perm.cons _ ?_
    exact List.perm_middle.symm
  exact q2.perm pp
/-- .. and put back -/
theorem Env.again (E : Env K I H (σ.set i o) (Γ.set i .any) (o' :: ρ) (c :: Θ)) (ho : σ[i]? = some o') (h : Γ[i]? = some c) : Env K I H σ Γ ρ Θ := by
  have hi : i < Γ.length := (List.getElem?_eq_some_iff.mp h).1
  have q := Env.store (i := i) E (by simpa using hi) rfl
  rw [List.set_set, List.set_set, set_same ho, set_same h] at q
  exact q
theorem Env.anyOf (E : Env K I H σ (Γ.set i .any) ρ Θ) (hi : i < Γ.length) : Env K I H (σ.set i none) (Γ.set i .any) ρ Θ := by
  have h : (Γ.set i .any)[i]? = some .any := List.getElem?_set_self hi
  obtain ⟨o, ho, q⟩ := E.aside h
  have q2 := q.pop
  rw [List.set_set] at q2
  exact q2
theorem wkAny : ∀ {Γ : List Cell} {i : Nat}, Wk Γ (Γ.set i .any)
  | [], _ => trivial
  | c :: Γ, 0 => ⟨.inl rfl, by
    have all : ∀ Γ : List Cell, Wk Γ Γ := by
      intro Γ
      induction Γ with
      | nil => trivial
      | cons c Γ ih => exact ⟨.inr rfl, ih⟩
    exact all Γ⟩
  | c :: Γ, i + 1 => ⟨.inr rfl, wkAny (Γ := Γ) (i := i)⟩
theorem mapR_at {f : α → Res β} {xs : List α} {x : α} (hx : xs[i]? = some x) : mapR f (xs.drop i) = (f x).bind fun y => (mapR f (xs.drop (i + 1))).bind fun ys => .ok (y :: ys) := by
  obtain ⟨hi, e⟩ := List.getElem?_eq_some_iff.mp hx
  rw [List.drop_eq_getElem_cons hi, e]
  rfl
theorem filR_at {t : α → Res Bool} {f : α → Res β} {xs : List α} {x : α} (hx : xs[i]? = some x) : filR t f (xs.drop i) = (t x).bind fun b => if b = true then (f x).bind fun y => (filR t f (xs.drop (i + 1))).bind fun ys => .ok (y :: ys) else filR t f (xs.drop (i + 1)) := by
  obtain ⟨hi, e⟩ := List.getElem?_eq_some_iff.mp hx
  rw [List.drop_eq_getElem_cons hi, e]
  rfl
theorem wipe1 (σ : L2.St) (i : Nat) : wipe σ [i] = σ.set i none := rfl
/-- [e for x in xs if t], made to be owned -/
theorem st_lcf [Rep α] [Rep β] {xs : List α} {J : It} {ρe : List (Option V)} {Θe : List Cell} {t : α → Res Bool} {f : α → Res β} {k : List β → Res ω} (hJ : Feeds K J xs ρe Θe)
    (E : Env K I H σ Γ (ρe ++ ρ) (Θe ++ Θ)) (hΓ : Γ[i]? = some c) (h : wp ((lcR t f xs).bind k) P X)
    (next : ∀ ys I' H' v, Env K I' H' σ Γ (some v :: ρ) (.own ys :: Θ) → wp (k ys) P X → Q v H')
    (turn : ∀ x I' H' σ' ρ' Θ' (Qt : Bool → Hp → Prop), Env K I' H' σ' (Γ.set i (.im x)) ρ' Θ' → wp (t x) (fun b => ∀ I'' H'', Env K I'' H'' σ' (Γ.set i (.im x)) ρ' Θ' → Qt b H'') X → tt σ' H' Qt)
    (elt : ∀ x I' H' σ' ρ' Θ' (Qe : VK), Env K I' H' σ' (Γ.set i (.im x)) ρ' Θ' → wp (f x) (fun z => ∀ I'' H'' w, Env K I'' H'' σ' (Γ.set i (.im x)) (some w :: ρ') (.im z :: Θ') → Qe w H'') X → te σ' H' Qe) :
    LcG J (gName i) tt te [i] σ H Q := by
  intro D hD
  have hi : i < Γ.length := (List.getElem?_eq_some_iff.mp hΓ).1
  unfold lcR at h
  rw [clo_eq] at h
  by_cases hz : xs.length ≤ line
  case neg =>
    rw [if_neg hz] at h
    exact h.elim
  rw [if_pos hz] at h
  obtain ⟨o, ho, E1⟩ := E.aside hΓ
  have E2 := E1.newL (α := β) (vs := []) (xs := []) hD .nil
  -- the state: the list so far on top
  refine ⟨fun n m H' => m = xs.length - n ∧ n ≤ xs.length ∧ ∃ acc I', acc.length ≤ n ∧ Env K I' H' (σ.set i none) (Γ.set i .any) (some (.ref D) :: o :: (ρe ++ ρ)) (.own acc :: c :: (Θe ++ Θ)) ∧
    wp ((filR t f (xs.drop n)).bind fun ys => k (acc ++ ys)) P X, ⟨xs.length, by simp, Nat.zero_le _, [], I, Nat.le_refl _, E2, h⟩, ?_⟩
  rintro n m H' ⟨rfl, hn, acc, I', ha, E', h'⟩
  -- the walk's entries, seen
  have EJ : Env K I' H' (σ.set i none) (Γ.set i .any) (ρe ++ (some (.ref D) :: o :: ρ)) (Θe ++ (.own acc :: c :: Θ)) := by
    refine ⟨E'.1, ?_, E'.2.2.perm ((List.Perm.refl _).append ?_)⟩
    · have := E'.2.1
      have l := hJ.len
      simp only [List.length_append, List.length_cons] at this ⊢
      omega
    · have l := hJ.len
      show (((some (V.ref D), Cell.own acc) :: (o, c) :: ((ρe ++ ρ).zip (Θe ++ Θ)))).Perm _
      rw [List.zip_append l, List.zip_append l]
      show ((some (V.ref D), Cell.own acc) :: (o, c) :: (ρe.zip Θe ++ ρ.zip Θ)).Perm (ρe.zip Θe ++ ((some (V.ref D), Cell.own acc) :: (o, c) :: ρ.zip Θ))
      exact ((List.perm_middle.symm).cons _ |>.trans List.perm_middle.symm)
  by_cases hlt : n < xs.length
  · have hx : xs[n]? = some xs[n] := List.getElem?_eq_getElem hlt
    rw [filR_at hx, Res.bind_assoc] at h'
    refine .inr ⟨hJ.go n EJ hlt, fun H2 => ∃ acc I', acc.length ≤ n + 1 ∧ Env K I' H2 (σ.set i none) (Γ.set i .any) (some (.ref D) :: o :: (ρe ++ ρ)) (.own acc :: c :: (Θe ++ Θ)) ∧
      wp ((filR t f (xs.drop (n + 1))).bind fun ys => k (acc ++ ys)) P X, fun H2 z => ⟨xs.length - (n + 1), by omega, rfl, hlt, z⟩, fun y H2 hyl => ?_⟩
    obtain ⟨I2, g2, ry⟩ := hJ.yld n y H2 _ EJ hx hyl
    have E3 := ((E'.grow g2).push ry).store (i := i) (Γ' := Γ.set i (.im xs[n])) (by simpa using hi) (by rw [List.set_set])
    refine ⟨by show ((wipe σ [i]).set i (some y)).set i none = wipe σ [i]; rw [wipe1, List.set_set, List.set_set], ?_⟩
    have back : ∀ {I3 H3 : Hp} {ρ' : List (Option V)} {Θ' : List Cell}, Env K I3 H3 ((wipe σ [i]).set i (some y)) (Γ.set i (.im xs[n])) ρ' Θ' → Env K I3 H3 (σ.set i none) (Γ.set i .any) ρ' Θ' := by
      intro I3 H3 ρ' Θ' Z
      have z1 := Z.weak (wkAny (i := i))
      rw [List.set_set] at z1
      have z2 := Env.anyOf z1 hi
      rw [wipe1, List.set_set, List.set_set] at z2
      exact z2
    refine turn xs[n] I2 H2 _ _ _ _ E3 (wpb h' fun b h' I3 H3 E4 => ?_)
    cases b with
    | false => exact ⟨acc, I3, by omega, back E4, h'⟩
    | true =>
      have h2 : wp (((f xs[n]).bind fun y => (filR t f (xs.drop (n + 1))).bind fun ys => .ok (y :: ys)).bind fun ys => k (acc ++ ys)) P X := h'
      rw [Res.bind_assoc] at h2
      refine elt xs[n] I3 H3 _ _ _ _ E4 (wpb h2 fun z h2 I4 H4 w E5 => ?_)
      rw [Res.bind_assoc] at h2
      have E6 := back E5
      have rz := E6.topR
      obtain ⟨p, vs, e1, hp, _, q, ch, _⟩ := E6.pop.unstack.ownL
      cases e1
      have hlen : vs.length = acc.length := Paired.length q
      refine ⟨vs, hp, by rw [hlen, ← line_eq]; omega, acc ++ [z], I4, by rw [List.length_append]; simp; exact ha, ?_, ?_⟩
      · exact E6.pop.pop.toStack (ch (Grow.refl E6.same) _ _ (paired_app q (.cons rz .nil)))
      · have e : (fun ys => k (acc ++ z :: ys)) = fun ys => k ((acc ++ [z]) ++ ys) := by
          funext ys
          rw [List.append_assoc]
          rfl
        rw [← e]
        exact h2
  · have e : n = xs.length := by omega
    subst e
    rw [List.drop_eq_nil_of_le (Nat.le_refl _)] at h'
    have h' : wp (k (acc ++ [])) P X := h'
    rw [List.append_nil] at h'
    refine .inl ⟨hJ.stop _ EJ (Nat.le_refl _), next acc I' H' _ ?_ h'⟩
    -- the entry back, the walk's entries gone
    have E7 : Env K I' H' (σ.set i none) (Γ.set i .any) (ρe ++ (o :: some (.ref D) :: ρ)) (Θe ++ (c :: .own acc :: Θ)) := by
      refine ⟨EJ.1, by have := EJ.2.1; simp only [List.length_append, List.length_cons] at this ⊢; omega, EJ.2.2.perm ((List.Perm.refl _).append ?_)⟩
      rw [List.zip_append hJ.len, List.zip_append hJ.len]
      exact (List.Perm.refl _).append (.swap _ _ _)
    exact (E7.drops hJ.len).again ho hΓ
/-- [e for x in xs] -/
theorem st_lcm [Rep α] [Rep β] {xs : List α} {J : It} {ρe : List (Option V)} {Θe : List Cell} {f : α → Res β} {k : List β → Res ω} (hJ : Feeds K J xs ρe Θe)
    (E : Env K I H σ Γ (ρe ++ ρ) (Θe ++ Θ)) (hΓ : Γ[i]? = some c) (h : wp ((lcM f xs).bind k) P X)
    (next : ∀ ys I' H' v, Env K I' H' σ Γ (some v :: ρ) (.own ys :: Θ) → wp (k ys) P X → Q v H')
    (elt : ∀ x I' H' σ' ρ' Θ' (Qe : VK), Env K I' H' σ' (Γ.set i (.im x)) ρ' Θ' → wp (f x) (fun z => ∀ I'' H'' w, Env K I'' H'' σ' (Γ.set i (.im x)) (some w :: ρ') (.im z :: Θ') → Qe w H'') X → te σ' H' Qe) :
    LcG J (gName i) tYes te [i] σ H Q := by
  rw [lcM_lcR] at h
  exact st_lcf hJ E hΓ h next (fun x I' H' σ' ρ' Θ' Qt E' q => q I' H' E') elt
end
theorem mapR_nil {α β : Type} {f : α → Res β} : mapR f [] = .ok [] := rfl
theorem mapR_cons {α β : Type} {f : α → Res β} {x : α} {xs : List α} : mapR f (x :: xs) = (f x).bind fun y => (mapR f xs).bind fun ys => .ok (y :: ys) := rfl
theorem filR_nil {α β : Type} {t : α → Res Bool} {f : α → Res β} : filR t f [] = .ok [] := rfl
theorem filR_cons {α β : Type} {t : α → Res Bool} {f : α → Res β} {x : α} {xs : List α} : filR t f (x :: xs) = (t x).bind fun b => if b = true then (f x).bind fun y => (filR t f xs).bind fun ys => .ok (y :: ys) else filR t f xs := rfl
end M
namespace M
open PySem PySem.Spec PyProof.Rows L2
section
variable {K : PySem.W.Frag} {mg : Str → Option Value} {I H I' H' : Hp} {σ σ' ρ ρ' : List (Option V)} {Γ Γ' Θ Θ' : List Cell} {i j n : Nat} {v v0 v1 v2 v3 : V} {c c1 c2 : Cell} {o : Option V} {te tl ti : TE} {ta : TA} {tt : TT} {t u : TS} {dn db dc : L2.St → Hp → Prop} {dr : VK} {Q : VK} {W : WX}
variable {pn : Option V} {ω : Type} {P : ω → Prop} {X : Exn → Prop} {α β γ δ : Type}
theorem Env.sperm (E : Env K I H σ Γ ρ Θ) (l : ρ'.length = Θ'.length) (p : (ρ.zip Θ).Perm (ρ'.zip Θ')) : Env K I H σ Γ ρ' Θ' := ⟨E.1, l, E.2.2.perm (p.append_left _)⟩
theorem st_callO' {X1 : Exn → Prop} {S A B : Type} [Own S] {cells : A → List Cell} {m : S → A → Res (B × S)} {oc : B → Cell} {vs : List V} {s : S} (a : A) {k : B × S → Res ω} (hΓ : Γ[i]? = some (.own s pn)) (h0 : σ[i]? = some (some v0))
    (E : Env K I H σ Γ ((vs.map some).reverse ++ ρ) ((cells a).reverse ++ Θ)) (hn : vs.length = n) (hc : (cells a).length = n)
    (h : wp (m s a) (fun b => wp (k b) P X) X1) (hX : ∀ e, X1 e → XWish K mg W σ (Γ.set i .any) ρ Θ e)
    (next : ∀ b I' H' v, Env K I' H' σ (Γ.set i (.own b.2 pn)) (some v :: ρ) (oc b.1 :: Θ) → wp (k b) P X → Q v H') : SpO K mg n cells m oc (v0 :: vs) H Q (WE W σ) := by
  have hi : i < Γ.length := (List.getElem?_eq_some_iff.mp hΓ).1
  obtain ⟨o, ho, E1⟩ := E.aside hΓ
  have eo : o = some v0 := Option.some.inj (ho.symm.trans h0)
  subst eo
  have hpin := E1.unstack.pin
  have E1 := (Env.pop E1).toStack (E1.unstack.repin (pn' := some v0) fun w e => Option.some.inj e)
  have lr : (vs.map some).reverse.length = (cells a).reverse.length := by simp [hn, hc]
  have l2 := E.2.1
  have E2 : Env K I H (σ.set i none) (Γ.set i .any) (((v0 :: vs).map some).reverse ++ ρ) ((Cell.own s (some v0) :: cells a).reverse ++ Θ) := by
    refine E1.sperm (by simp only [List.length_append, List.length_reverse, List.length_map, List.length_cons] at l2 ⊢; omega) ?_
    have e1 : ((v0 :: vs).map some).reverse ++ ρ = (vs.map some).reverse ++ (some v0 :: ρ) := by simp
    have e2 : (Cell.own s (some v0) :: cells a).reverse ++ Θ = (cells a).reverse ++ (Cell.own s (some v0) :: Θ) := by simp
    rw [e1, e2, List.zip_append lr, List.zip_cons_cons, List.zip_append lr, List.zip_cons_cons]
    exact List.perm_middle.symm
  have E3 := E2.enter (vs := (v0 :: vs).map some) (cs := Cell.own s (some v0) :: cells a) (by simp [hn, hc])
  have ls : (σ.set i none).length = (Γ.set i Cell.any).length := by simp [E.1]
  refine ⟨by simp [hn], s, a, I, _, _, E3, ?_⟩
  refine wp_mono h (fun b q I' H' v E' => ?_) fun e x I' H' cls d hm E' => ?_
  · have E4 : Env K I' H' (σ.set i none) (Γ.set i .any) (some v0 :: some v :: ρ) (.own b.2 pn :: oc b.1 :: Θ) := by
      have lz := E'.2.1
      simp only [List.length_cons, List.length_append] at lz
      have E'2 : EnvL K I' H' ((some v0, .own b.2 (some v0)) :: ((some v :: (σ.set i none ++ ρ)).zip (oc b.1 :: (Γ.set i Cell.any ++ Θ)))) := E'.2.2
      refine ⟨ls, by simp only [List.length_cons]; omega, (E'2.repin hpin).perm ?_⟩
      have e3 : ((some v :: (σ.set i none ++ ρ)).zip (oc b.1 :: (Γ.set i Cell.any ++ Θ))) = (some v, oc b.1) :: ((σ.set i none).zip (Γ.set i .any) ++ ρ.zip Θ) := by
        rw [List.zip_cons_cons, List.zip_append ls]
      show (((some v0, Cell.own b.2 pn) :: []) ++ ((some v :: (σ.set i none ++ ρ)).zip (oc b.1 :: (Γ.set i Cell.any ++ Θ)))).Perm _
      rw [e3]
      show ((some v0, Cell.own b.2 pn) :: (some v, oc b.1) :: ((σ.set i none).zip (Γ.set i .any) ++ ρ.zip Θ)).Perm ((σ.set i none).zip (Γ.set i .any) ++ ((some v0, Cell.own b.2 pn) :: (some v, oc b.1) :: ρ.zip Θ))
      exact ((List.perm_middle.symm).cons _).trans List.perm_middle.symm
    have E5 := E4.store (i := i) (by simpa using hi) rfl
    rw [List.set_set, List.set_set, set_same h0] at E5
    exact next b I' H' v E5 q
  · have E4 := E'.leave (σ := σ.set i none) (Γ := Γ.set i .any) ls
    have E5 : Env K I' H' σ (Γ.set i .any) (some (.ref d) :: ρ) (.im (XD.mk e.fs) :: Θ) := by
      have q := Env.store (i := i) (c := .any) (o := some v0) (E4.toStack E4.2.2.any) (by simpa using hi) rfl
      rw [List.set_set, List.set_set, set_same h0] at q
      exact q
    exact hX e x I' H' cls d hm E5
theorem st_callO {S A B : Type} [Own S] {cells : A → List Cell} {m : S → A → Res (B × S)} {oc : B → Cell} {vs : List V} {s : S} (a : A) {k : B × S → Res ω} (hΓ : Γ[i]? = some (.own s pn)) (h0 : σ[i]? = some (some v0))
    (E : Env K I H σ Γ ((vs.map some).reverse ++ ρ) ((cells a).reverse ++ Θ)) (hn : vs.length = n) (hc : (cells a).length = n)
    (h : wp ((m s a).bind k) P X) (hX : ∀ e, X e → XWish K mg W σ (Γ.set i .any) ρ Θ e)
    (next : ∀ b I' H' v, Env K I' H' σ (Γ.set i (.own b.2 pn)) (some v :: ρ) (oc b.1 :: Θ) → wp (k b) P X → Q v H') : SpO K mg n cells m oc (v0 :: vs) H Q (WE W σ) :=
  st_callO' a hΓ h0 E hn hc (wp_bind.mp h) hX next
/-- the first argument, an owned one: its value -/
theorem st_varO [Own α] {a : α} {Q : VK} (E : Env K I H σ Γ ρ Θ) (hΓ : Γ[i]? = some (.own a pn)) (next : ∀ v, σ[i]? = some (some v) → Q v H) : tVar i σ H Q := by
  obtain ⟨o, r, ho, e, _⟩ := E.pick hΓ
  obtain ⟨_, fs, h1, _⟩ := e
  cases fs with
  | nil => exact h1.elim
  | cons f fs =>
    obtain ⟨v, e1, _, _⟩ := h1.1
    have e1 : o = some v := e1
    subst e1
    exact ⟨v, ho, next v ho⟩
end
/-! ### calls with keywords, what is raised wished for at the caller's slots -/
section
variable {X : Cx} {CX : CXT} {k : Nat} {f : Addr} {fd : FuncData} {ps : List Str} {sp : Sp} {E : L2.St → XK} {x : Str} {p pos : Pos} {e : Expr} {es : List Expr} {ta : TE} {t tk : TA} {ks : List Str} {kws : List Keyword} {g : List Value → List Value → List Value} {gV : List V → List V → List V}
def tCallKS (n m : Nat) (sp : Sp) (gV : List V → List V → List V) (E : L2.St → XK) (t tk : TA) : TE := fun σ H Q => t σ H fun vs H1 => tk σ H1 fun zs H2 => vs.length = n ∧ zs.length = m ∧ sp (gV vs zs) H2 Q (E σ)
theorem run_fnKS {n : Nat} {pins : List (Addr × Obj)} {σ : L2.St} {H : Hp} {s : Shared} {Q : VK} {us ws : List Value} {vs zs : List V} (F : FnOk X.prog X.w X.K X.mg X.base CX k f fd ps sp) (hr : Room k X.A) (hb : KBn X.K fd ps n ks g gV) (hx : PassesAt CX X σ (E σ))
    (I : Inv X pins σ H s) (r : Vals vs us) (rz : Vals zs ws) (l1 : vs.length = n) (l2 : zs.length = ks.length) (h : sp (gV vs zs) H Q (E σ)) : wpAny (model X.prog X.w) X.A (call (.ref f) us (ks.zip ws)) (EP X pins σ Q) X.xe s := by
  have r2 := hb.rel r rz
  refine wpAny_call (codeAny_mono (F.run X.A X.stack s H ⟨us, ks.zip ws⟩ (g us ws) (gV vs zs) Q (E σ) hr I.env0 (hb.to s us ws I.kIn (r.length.symm.trans l1) (rz.length.symm.trans l2)) r2 h) fun r s' hq => ?_)
  cases r with
  | error e => exact hx pins H s e s' I hq
  | ok fl =>
    cases fl with
    | ret u => exact I.after hq
    | next => exact False.elim hq
    | brk => exact False.elim hq
    | cont => exact False.elim hq
theorem pe_callKS {n : Nat} (F : FnOk X.prog X.w X.K X.mg X.base CX k f fd ps sp) (hr : Room k X.A) (hg : Gl X x) (hm : X.mg x = some (.ref f)) (hk : PySem.W.keepIn X.K (.ref f) = true) (hb : KBn X.K fd ps n ks g gV) (hx : ∀ σ, PassesAt CX X σ (E σ))
    (ha : PA X (e :: es) t) (hkw : PK X kws tk) (hall : (backToKw pos (keywordEach kws X.env)).all (·.1.isSome) = true := by rfl) (hks : (backToKw pos (keywordEach kws X.env)).filterMap (·.1) = ks := by rfl)
    (hdb : (x == ("__debug__" : Str)) = false := by decide) (he : starEach (e :: es) X.env = (false, eval e X.env) :: starEach es X.env := by rfl)
    (hpl : ((backTo pos (starEach (e :: es) X.env)).any (·.1) || (backToKw pos (keywordEach kws X.env)).any (·.1.isNone)) = false := by rfl) :
    PE X (.Call (.Name x p) (e :: es) kws pos) (tCallKS n ks.length sp gV E t tk) := by
  refine ⟨fun pins s σ H Q I h => ?_⟩
  refine wpAny_Call_Name_kw (ld_glob I hg hm ?_ hdb)
  refine PySem.W.callWith_KW (h₀ := X.base) I.ok.mod.kin hk hall (thn (ha.run pos pins s σ H _ I h) fun us s1 ⟨vs, H1, I1, r, q⟩ => ?_) hpl he
  refine thn (hkw.run pos pins s1 σ H1 _ I1 q) fun ws s2 ⟨zs, H2, I2, rz, l1, l2, q2⟩ => ⟨I2.kIn, ?_⟩
  rw [hks]
  exact run_fnKS F hr hb (hx σ) I2 r rz l1 l2 q2
/-- keywords alone -/
theorem pe_callKS0 (F : FnOk X.prog X.w X.K X.mg X.base CX k f fd ps sp) (hr : Room k X.A) (hg : Gl X x) (hm : X.mg x = some (.ref f)) (hk : PySem.W.keepIn X.K (.ref f) = true) (hb : KBn X.K fd ps 0 ks g gV) (hx : ∀ σ, PassesAt CX X σ (E σ))
    (hkw : PK X kws tk) (hall : (backToKw pos (keywordEach kws X.env)).all (·.1.isSome) = true := by rfl) (hks : (backToKw pos (keywordEach kws X.env)).filterMap (·.1) = ks := by rfl)
    (hdb : (x == ("__debug__" : Str)) = false := by decide) (hpl : (backToKw pos (keywordEach kws X.env)).any (·.1.isNone) = false := by rfl) :
    PE X (.Call (.Name x p) [] kws pos) (tCallKS 0 ks.length sp gV E tNil tk) := by
  refine ⟨fun pins s σ H Q I h => ?_⟩
  refine wpAny_Call_Name_kw (ld_glob I hg hm ?_ hdb)
  refine PySem.W.callWith_KW0 (h₀ := X.base) I.ok.mod.kin hk hall ?_ hpl
  refine thn (hkw.run pos pins s σ H _ I h) fun ws s2 ⟨zs, H2, I2, rz, l1, l2, q2⟩ => ⟨I2.kIn, ?_⟩
  rw [hks]
  exact run_fnKS (us := []) (vs := []) F hr hb (hx σ) I2 .nil rz rfl l2 q2
end
/-- values by their places: the positional ones, then the keywords' -/
def gI {α : Type} (ix : List Nat) (us ws : List α) : List α := ix.filterMap fun i => (us ++ ws)[i]?
theorem gI_rel {ix : List Nat} {vs zs : List V} {us ws : List Value} (r : Vals vs us) (rz : Vals zs ws) : Vals (gI ix vs zs) (gI ix us ws) := by
  have q := r.append rz
  unfold gI
  induction ix with
  | nil => exact .nil
  | cons i ix ih =>
    cases e : (vs ++ zs)[i]? with
    | none =>
      rw [List.filterMap_cons_none e, List.filterMap_cons_none (q.none_of e)]
      exact ih
    | some v =>
      obtain ⟨u, e2, ru⟩ := q.get e
      rw [List.filterMap_cons_some e, List.filterMap_cons_some e2]
      exact .cons ru ih
theorem kbn_of {K : PySem.W.Frag} {x qual : Str} {st : Stmt} {f : Addr} {fd : FuncData} {ps ks : List Str} {n : Nat} (ix : List Nat) (F : Fun K x qual st f fd)
    (h : ∀ (kV doc pm : Value) (an : Option Addr) (cdv ct : Value) (us ws : List Value), us.length = n → ws.length = ks.length → bindArgs (PySem.W.fnOf x qual (defArgs st) (defBody st) (defScope st) .none kV doc pm an cdv ct) ⟨us, ks.zip ws⟩ = pure (ps.zip (gI ix us ws))) :
    KBn K fd ps n ks (gI ix) (gI ix) := by
  obtain ⟨oc, od, kV, doc, pm, an, cdv, ct, osl, rfl, lk, hcd⟩ := F.ex
  exact ⟨fun s us ws _ h1 h2 => .of_eq (h kV doc pm an cdv ct us ws h1 h2), gI_rel⟩
end M
namespace M
open PySem PySem.Spec PyProof.Rows L2
/-! ### texts: times, backward, truth; isinstance -/
noncomputable def xRep (w : Tx) (n : Int) : Res Tx := clo (if -(2 ^ 63) ≤ n ∧ n < 2 ^ 63 ∧ w.length * n.toNat ≤ line then .ok (List.replicate n.toNat w).flatten else .bad)
def rRepS : R2 := fun x y H Q => ∃ z i, x = .str z ∧ y = .int i ∧ -(2 ^ 63) ≤ i ∧ i < 2 ^ 63 ∧ z.length * i.toNat ≤ sizeLine ∧ Q (.str ⟨((List.replicate i.toNat z.cps.toList).flatten).toArray⟩) H
theorem fold_rep (c : Array Nat) : ∀ (n : Nat) (a : Array Nat), ((List.replicate n c).foldl (· ++ ·) a).toList = a.toList ++ (List.replicate n c.toList).flatten
  | 0, a => by simp
  | n + 1, a => by
    rw [List.replicate_succ, List.foldl_cons, fold_rep c n, List.replicate_succ, List.flatten_cons]
    simp
theorem op_rep_str {X : Cx} : OpR X (binaryOp .Mult) rRepS := by
  intro pins s σ H x y v u Q I rx ry h
  obtain ⟨z, i, rfl, rfl, h1, h2, hz, q⟩ := h
  obtain ⟨t, rfl⟩ := rx
  obtain ⟨t', rfl⟩ := ry
  have sl : (sizeLine : Nat) = 16777216 := sizeLine_eq
  refine P.mul_str ?_ ?_ ?_ ?_
  · have e1 : ¬ i < -(2 ^ 63 : Int) := by omega
    have e2 : ¬ i ≥ 2 ^ 63 := by omega
    rw [decide_eq_false e1, decide_eq_false e2]; rfl
  · intro hi _ hb
    have hp : (0 : Int) < i := by omega
    have h3 : (z.length : Int) * i ≤ 16777216 := by
      have e : i = ((i.toNat : Nat) : Int) := by omega
      rw [e]
      have : ((z.length * i.toNat : Nat) : Int) ≤ 16777216 := by omega
      simpa using this
    have h4 : (2 ^ 63 - 1) / i < (z.length : Int) := hb
    have h5 : (2 ^ 63 - 1 : Int) < (z.length : Int) * i := Int.lt_mul_of_ediv_lt hp h4
    omega
  · intro _ _
    exact decide_eq_false (Nat.not_lt.mpr hz)
  · by_cases hi : i < 1
    · rw [if_pos hi]
      have e : i.toNat = 0 := by omega
      rw [e] at q
      exact ⟨by decide, .str _, H, I.tok _, ⟨_, rfl⟩, q⟩
    · rw [if_neg hi]
      by_cases hb : (i == 1 || z.length == 0) = true
      · rw [if_pos hb]
        have e : (⟨((List.replicate i.toNat z.cps.toList).flatten).toArray⟩ : Str) = z := by
          apply ext_toList
          show (List.replicate i.toNat z.cps.toList).flatten = z.cps.toList
          rcases (Bool.or_eq_true _ _).mp hb with e | e
          · have : i = 1 := by simpa using e
            rw [this]
            simp
          · have : z.cps.size = 0 := by simpa [Str.length] using e
            have e2 : z.cps.toList = [] := by simpa using this
            rw [e2]
            simp
        rw [e] at q
        exact ⟨.str z, H, I, ⟨_, rfl⟩, q⟩
      · rw [if_neg hb]
        have e : (⟨((List.replicate i.toNat z.cps.toList).flatten).toArray⟩ : Str) = ⟨(List.replicate i.toNat z.cps).foldl (· ++ ·) #[]⟩ := by
          apply ext_toList
          rw [fold_rep]
          simp
        rw [e] at q
        refine ⟨?_, .str _, H, I.tok _, ⟨_, rfl⟩, q⟩
        show ((List.replicate i.toNat z.cps).foldl (· ++ ·) #[]).size ≤ sizeLine
        have e2 : ((List.replicate i.toNat z.cps).foldl (· ++ ·) #[]).size = z.length * i.toNat := by
          rw [← Array.length_toList, fold_rep]
          simp [Str.length, Nat.mul_comm]
        rw [e2]
        exact hz
theorem hr_repT {x : Tx} {y : Int} : HR rRepS x y (xRep x y) := .mk fun X Q _ _ q => by
  unfold xRep at q
  rw [clo_eq] at q
  split at q
  · rename_i h
    refine ⟨mkS x, y, rfl, rfl, h.1, h.2.1, by rw [mkS_len, ← line_eq]; exact h.2.2, ?_⟩
    rw [mkS_list]
    refine q ?_
    show ((List.replicate y.toNat x).flatten).length ≤ line
    rw [List.length_flatten, List.map_replicate, List.sum_replicate_nat, Nat.mul_comm]
    exact h.2.2
  · exact q.elim
/-- s[::-1] -/
def tRevS (te : TE) : TE := fun σ H Q => te σ H fun x H1 => ∃ z, x = .str z ∧ z.length ≤ sizeLine ∧ Q (.str ⟨z.cps.toList.reverse.toArray⟩) H1
theorem pe_revS {X : Cx} {e : Expr} {te : TE} {k : Nat} {p1 p2 p3 pos : Pos} (he : PE X e te) : PE X (.Subscript e (.Slice none none (some (.UnaryOp .USub (.Constant (.int 1) k p1) p2)) p3) pos) (tRevS te) := by
  refine ⟨fun pins s σ H Q I h => ?_⟩
  refine Subscript_ (thn (he.run pins s σ H _ I h) fun v s1 ⟨x, H1, I1, r1, q1⟩ => ?_)
  obtain ⟨z, ex, hz, q⟩ := q1
  subst ex
  obtain ⟨t, rfl⟩ := r1
  have hst : PO X (some (.UnaryOp .USub (.Constant (.int 1) k p1) p2)) (tPart (tUn (rU fun i => .int (-i)) (tC (.int 1)))) := po_some (pe_un un_neg pe_int)
  refine wpAny_Slice (thn (po_none.run pins s1 σ H1 (fun o H2 => o = none ∧ H2 = H1) I1 ⟨rfl, rfl⟩) fun vl s2 ⟨l, H2, I2, pl, el, e2⟩ => ?_)
  subst el e2
  refine thn (po_none.run pins s2 σ H2 (fun o H3 => o = none ∧ H3 = H2) I2 ⟨rfl, rfl⟩) fun vu s3 ⟨u, H3, I3, pu, eu, e3⟩ => ?_
  subst eu e3
  refine thn (hst.run pins s3 σ H3 (fun o H4 => o = some (-1) ∧ H4 = H3) I3 ⟨1, rfl, -1, rfl, rfl, rfl⟩) fun vs s4 ⟨o, H4, I4, ps, eo, e4⟩ => ?_
  subst eo e4
  have I5 : Inv X pins σ H4 { s4 with heap := s4.heap.push { cls := .type "slice", data := .fields #[vl, vu, vs] } } := I4.kept (t' := s4.toks) fun b ob q => Heap.get?_push_of_some _ q
  obtain ⟨l, rfl, el⟩ := IsPart.raw pl
  obtain ⟨u, rfl, eu⟩ := IsPart.raw pu
  obtain ⟨st, rfl, es⟩ := IsPart.raw ps
  have hl : l = none := by cases l <;> simp at el ⊢
  have hu : u = none := by cases u <;> simp at eu ⊢
  subst hl hu
  obtain ⟨d, tk, rfl⟩ : ∃ d tk, st = some (d, tk) := by
    cases st with
    | none => simp at es
    | some p => exact ⟨p.1, p.2, rfl⟩
  have hd : d = -1 := by
    have z : (-1 : Int) = d := by simpa using es.symm
    exact z.symm
  subst hd
  refine tail_any (T := "str") (ops := [.str z t, .ref s4.heap.objs.size]) (typeIs_str _ _ _) (F.slot_str_getitem.lookup) ?_ (by with_unfolding_all rfl)
  refine wpAny_getItem_str_slice (l := none) (u := none) (st := some (-1, tk)) ⟨_, Heap.get?_push_size _ rfl, rfl, rfl⟩ (by rfl) ?_
  have e : (⟨((slicePicked z none none (some (-1, tk))).filterMap (z.cps[·]?)).toArray⟩ : Str) = ⟨z.cps.toList.reverse.toArray⟩ := by
    have hr := step_rev_list z tk
    have e0 : (Txt.sliceBy z none none (-1, tk)) = ⟨((slicePicked z none none (some (-1, tk))).filterMap (z.cps[·]?)).toArray⟩ := by
      unfold Txt.sliceBy
      exact if_neg (by simp)
    rw [e0] at hr
    apply ext_toList
    refine hr.trans ?_
    show _ = z.cps.toList.reverse
    apply List.ext_getElem
    · simp [Str.length]
    · intro i h1 h2
      have hi : i < z.length := by simpa using h1
      have hi2 : i < z.cps.size := hi
      rw [List.getElem_map, List.getElem_range, List.getElem_reverse]
      have h3 : z.length - 1 - i < z.cps.size := by
        have : z.length = z.cps.size := rfl
        omega
      simp only [Array.getD, h3, dif_pos, Array.getElem_toList]
      first | rfl | simp [Str.length]
  show (sliceMade z t none none (some (-1, tk))).post _ _
  unfold sliceMade
  rw [if_neg (by simp), e]
  refine ⟨?_, .str _, H4, I5.tok _, ⟨_, rfl⟩, q⟩
  show (z.cps.toList.reverse.toArray).size ≤ sizeLine
  simpa [Str.length] using hz
section
variable {K : PySem.W.Frag} {Γ : List Cell} {te : TE} {i : Nat} {P : Prop}
theorem hf_revp {w : Tx} (u : Unit) (h : HF K te Γ (.ok w)) : HF K (tRevS te) Γ (.ok w.reverse) := .mk fun X Q E q => h.run X _ E fun ok => ⟨mkS w, rfl, by rw [mkS_len, ← line_eq]; exact ok, by
  rw [mkS_list]
  exact q (by show w.reverse.length ≤ line; rw [List.length_reverse]; exact ok)⟩
theorem hf_revm {m : Res Tx} (u : Tx → Unit) (h : HF K te Γ m) : HF K (tRevS te) Γ (m.bind fun w => .ok w.reverse) := .mk fun X Q E q => h.run X _ E (wpb q fun w q ok => ⟨mkS w, rfl, by rw [mkS_len, ← line_eq]; exact ok, by
  rw [mkS_list]
  exact q (by show w.reverse.length ≤ line; rw [List.length_reverse]; exact ok)⟩)
def tTrq (K : PySem.W.Frag) (te : TE) : TT := fun σ H Q => te σ H fun x H' => ∃ k, TruV K x H' k ∧ Q k H'
theorem ht_truT_p {w : Tx} (h : HF K te Γ (.ok w)) : HT K (tTrq K te) Γ (.ok (!w.isEmpty)) := .mk fun X Q E q => h.run X _ E fun ok => ⟨!w.isEmpty, ⟨by rw [mkS_len, ← line_eq]; exact ok, by rw [mkS_len]; cases w <;> simp <;> omega⟩, q⟩
theorem ht_truT_m {m : Res Tx} (h : HF K te Γ m) : HT K (tTrq K te) Γ (m.bind fun w => .ok (!w.isEmpty)) := .mk fun X Q E q => h.run X _ E (wpb q fun w q ok => ⟨!w.isEmpty, ⟨by rw [mkS_len, ← line_eq]; exact ok, by rw [mkS_len]; cases w <;> simp <;> omega⟩, q⟩)
/-! isinstance of what is known, a built-in class -/
def tIsi (K : PySem.W.Frag) (i : Nat) (T : String) : TE := tCB (rIsi K) (tCons (tVar i) (tCons (tC (.ty T)) tNil))
section
variable {T : String} {b : Bool}
theorem hf_isI {n : Int} (hΓ : Γ[i]? = some (.im n)) (e : ∀ K, PySem.W.kitOne K (.type "int") (.type T) = some b) : HF K (tIsi K i T) Γ (.ok b) := .mk fun X Q E q => ⟨_, (E.sca hΓ).1, _, _, _, _, b, rfl, .ty T, .base (.int n), e K, q trivial⟩
theorem hf_isB {n : Bool} (hΓ : Γ[i]? = some (.im n)) (e : ∀ K, PySem.W.kitOne K (.type "bool") (.type T) = some b) : HF K (tIsi K i T) Γ (.ok b) := .mk fun X Q E q => ⟨_, (E.sca hΓ).1, _, _, _, _, b, rfl, .ty T, .base (.bl n), e K, q trivial⟩
theorem hf_isT {n : Tx} (hΓ : Γ[i]? = some (.im n)) (e : ∀ K, PySem.W.kitOne K (.type "str") (.type T) = some b) : HF K (tIsi K i T) Γ (.ok b) := .mk fun X Q E q => ⟨_, (E.sca hΓ).1, _, _, _, _, b, rfl, .ty T, .base (.str _), e K, q trivial⟩
theorem hf_isL {α : Type} [Rep α] {xs : List α} (hΓ : Γ[i]? = some (.im xs)) (e : ∀ K, PySem.W.kitOne K (.type "list") (.type T) = some b) : HF K (tIsi K i T) Γ (.ok b) := .mk fun X Q E q => by
  obtain ⟨a, vs, hs, ha, _⟩ := E.listAt hΓ
  exact ⟨_, hs, _, _, _, _, b, rfl, .ty T, .base (.lst ha), e K, q trivial⟩
theorem hf_isLO {α : Type} [Rep α] {xs : List α} {pn : Option V} (hΓ : Γ[i]? = some (.own xs pn)) (e : ∀ K, PySem.W.kitOne K (.type "list") (.type T) = some b) : HF K (tIsi K i T) Γ (.ok b) := .mk fun X Q E q => by
  obtain ⟨a, vs, hs, ha, _⟩ := E.ownAt' hΓ
  exact ⟨_, hs, _, _, _, _, b, rfl, .ty T, .base (.lst ha), e K, q trivial⟩
end
end
end M
namespace M
open PySem PySem.Spec PyProof.Rows L2
/-! ### == of data -/
class Dat (α : Type) [Rep α] [DecidableEq α] where
  toD : α → PyData
  dp : ∀ {K : PySem.W.Frag} {I : Hp} {v : V} {x : α}, Rep.rp K I v x → Dp K I v (toD x)
  eq : ∀ x y : α, PyData.eqv (toD x) (toD y) = decide (x = y)
  dep : Nat
  depth : ∀ x : α, (toD x).depth ≤ dep
instance datInt : Dat Int := ⟨.int, fun {_ _ v x} h => by
  have h : v = V.int x ∧ True := h
  rw [h.1]; exact .int x, fun x y => by
  show (x == y) = _
  by_cases e : x = y <;> simp [e], 0, fun _ => Nat.le_refl _⟩
instance datBool : Dat Bool := ⟨.bool, fun {_ _ v x} h => by
  have h : v = V.bl x ∧ True := h
  rw [h.1]; exact .bl x, fun x y => by
  show (x == y) = _
  by_cases e : x = y <;> simp [e], 0, fun _ => Nat.le_refl _⟩
theorem mkS_beq (x y : Tx) : (mkS x == mkS y) = decide (x = y) := by
  by_cases e : x = y
  · subst e; simp
  · rw [decide_eq_false e]
    exact beq_eq_false_iff_ne.mpr fun q => e (mkS_inj q)
instance datTx : Dat Tx := ⟨fun w => .str (mkS w), fun {_ _ v x} h => by
  have h : v = V.str (mkS x) ∧ _ := h
  rw [h.1]; exact .str _, fun x y => mkS_beq x y, 0, fun _ => Nat.le_refl _⟩
section
variable {α β : Type} [Rep α] [DecidableEq α] [Dat α] [Rep β] [DecidableEq β] [Dat β]
theorem dpAll {K : PySem.W.Frag} {I : Hp} : ∀ {vs : List V} {xs : List α}, Paired (fun v x => Rep.rp K I v x) vs xs → DpAll K I vs (xs.map Dat.toD)
  | _, _, .nil => .nil
  | _, _, .cons r t => .cons (Dat.dp r) (dpAll t)
theorem eqvAll : ∀ xs ys : List α, PyData.eqvAll (xs.map Dat.toD) (ys.map Dat.toD) = decide (xs = ys)
  | [], [] => rfl
  | [], y :: ys => rfl
  | x :: xs, [] => rfl
  | x :: xs, y :: ys => by
    show (PyData.eqv (Dat.toD x) (Dat.toD y) && PyData.eqvAll (xs.map Dat.toD) (ys.map Dat.toD)) = _
    rw [Dat.eq, eqvAll xs ys]
    by_cases e : x = y <;> by_cases e2 : xs = ys <;> simp [e, e2]
theorem depthAll (xs : List α) : PyData.depthAll (xs.map Dat.toD) ≤ Dat.dep α := by
  induction xs with
  | nil => exact Nat.zero_le _
  | cons x xs ih =>
    show max (PyData.depth (Dat.toD x)) (PyData.depthAll (xs.map Dat.toD)) ≤ _
    exact Nat.max_le.mpr ⟨Dat.depth x, ih⟩
instance datList : Dat (List α) := ⟨fun xs => .list (xs.map Dat.toD), fun {K I v x} h => by
  obtain ⟨a, vs, rfl, hq, p⟩ := h
  exact .lst (SqL.of hq) (dpAll p), fun x y => eqvAll x y, Dat.dep α + 1, fun x => Nat.succ_le_succ (depthAll x)⟩
instance : DecidableEq (TupL α) := fun x y => decidable_of_iff (x.l = y.l) ⟨fun h => by cases x; cases y; simpa using h, fun h => by rw [h]⟩
instance datTupL : Dat (TupL α) := ⟨fun xs => .tuple (xs.l.map Dat.toD), fun {K I v x} h => by
  obtain ⟨a, vs, rfl, hq, p⟩ := h
  exact .tup hq (dpAll p), fun x y => by
  refine (eqvAll x.l y.l).trans ?_
  by_cases e : x.l = y.l
  · have : x = y := by cases x; cases y; simpa using e
    simp [this]
  · have : x ≠ y := fun z => e (by rw [z])
    simp [e, this], Dat.dep α + 1, fun x => Nat.succ_le_succ (depthAll x.l)⟩
instance datPair : Dat (α × β) := ⟨fun x => .tuple [Dat.toD x.1, Dat.toD x.2], fun {K I v x} h => by
  obtain ⟨a, v1, v2, rfl, hq, p1, p2⟩ := h
  exact .tup hq (.cons (Dat.dp p1) (.cons (Dat.dp p2) .nil)), fun x y => by
  show (PyData.eqv (Dat.toD x.1) (Dat.toD y.1) && (PyData.eqv (Dat.toD x.2) (Dat.toD y.2) && true)) = _
  rw [Dat.eq, Dat.eq]
  obtain ⟨x1, x2⟩ := x
  obtain ⟨y1, y2⟩ := y
  by_cases e : x1 = y1 <;> by_cases e2 : x2 = y2 <;> simp [e, e2], max (Dat.dep α) (Dat.dep β) + 1, fun x => by
  show max (PyData.depth (Dat.toD x.1)) (max (PyData.depth (Dat.toD x.2)) 0) + 1 ≤ _
  have h1 := Dat.depth x.1
  have h2 := Dat.depth x.2
  omega⟩
end
/-- == of data; texts with codes that no sign has are none -/
def eqD {α : Type} [Rep α] [DecidableEq α] [Dat α] (x y : α) : Res Bool := if (PyData.canLay0 (Dat.toD x) && PyData.canLay0 (Dat.toD y)) = true then .ok (decide (x = y)) else .bad
def neD {α : Type} [Rep α] [DecidableEq α] [Dat α] (x y : α) : Res Bool := if (PyData.canLay0 (Dat.toD x) && PyData.canLay0 (Dat.toD y)) = true then .ok (!decide (x = y)) else .bad
theorem lay_ints (xs : List Int) : PyData.canLay0 (Dat.toD xs) = true := by
  show PyData.canLayAll0 (xs.map Dat.toD) = true
  induction xs with
  | nil => rfl
  | cons x xs ih =>
    show (PyData.canLay0 (.int x) && PyData.canLayAll0 (xs.map Dat.toD)) = true
    rw [ih]; rfl
@[simp] theorem eqD_ints (x y : List Int) : eqD x y = .ok (decide (x = y)) := by
  unfold eqD
  rw [lay_ints, lay_ints]
  rfl
@[simp] theorem neD_ints (x y : List Int) : neD x y = .ok (!decide (x = y)) := by
  unfold neD
  rw [lay_ints, lay_ints]
  rfl
section
variable {K : PySem.W.Frag} {mg : Str → Option Value} {I H I' H' : Hp} {σ σ' ρ : List (Option V)} {Γ Γ' Θ : List Cell} {i j n : Nat} {v v0 v1 v2 v3 : V} {c c1 c2 c3 c4 : Cell} {o1 o2 o3 o4 : Option V} {te tl ti : TE} {ta : TA} {tt : TT} {t u : TS} {dn db dc : L2.St → Hp → Prop} {dr : VK} {Q : VK} {W : WX}
variable {pn : Option V} {ω : Type} {P : ω → Prop} {X : Exn → Prop} {α β γ δ : Type}
theorem shp [Rep α] [DecidableEq α] [Dat α] {x : α} (h : PyData.canLay0 (Dat.toD x) = true) (hd : Dat.dep α ≤ 64) : SeqAt.shaped (Dat.toD x) = true := by
  unfold SeqAt.shaped
  rw [h, Bool.true_and]
  exact decide_eq_true (Nat.le_trans (Dat.depth x) hd)
theorem st_eqD [Rep α] [DecidableEq α] [Dat α] {x y : α} {k : Bool → Res ω} (E : Env K I H σ Γ (some v2 :: some v1 :: ρ) (.im y :: .im x :: Θ)) (hd : Dat.dep α ≤ 64) (h : wp ((eqD x y).bind k) P X)
    (next : ∀ b v, Env K I H σ Γ (some v :: ρ) (.im b :: Θ) → wp (k b) P X → Q v H) : OpG (rEqD K) v1 v2 H Q := by
  unfold eqD at h
  split at h
  · rename_i hb
    have hb := (Bool.and_eq_true _ _).mp hb
    refine ⟨_, _, Dat.dp (Rep.mono E.same E.pop.topR), Dat.dp (Rep.mono E.same E.topR), shp hb.1 hd, shp hb.2 hd, ?_⟩
    rw [Dat.eq]
    exact next _ _ (E.pop.pop.pushS (a := decide (x = y)) trivial) h
  · exact h.elim
theorem st_neD [Rep α] [DecidableEq α] [Dat α] {x y : α} {k : Bool → Res ω} (E : Env K I H σ Γ (some v2 :: some v1 :: ρ) (.im y :: .im x :: Θ)) (hd : Dat.dep α ≤ 64) (h : wp ((neD x y).bind k) P X)
    (next : ∀ b v, Env K I H σ Γ (some v :: ρ) (.im b :: Θ) → wp (k b) P X → Q v H) : OpG (rNeD K) v1 v2 H Q := by
  unfold neD at h
  split at h
  · rename_i hb
    have hb := (Bool.and_eq_true _ _).mp hb
    refine ⟨_, _, Dat.dp (Rep.mono E.same E.pop.topR), Dat.dp (Rep.mono E.same E.topR), shp hb.1 hd, shp hb.2 hd, ?_⟩
    rw [Dat.eq]
    exact next _ _ (E.pop.pop.pushS (a := !decide (x = y)) trivial) h
  · exact h.elim
/-- an owned list against [] -/
theorem paired_dp0 {K : PySem.W.Frag} {H : Hp} {p : Addr} (hp : H p = some (.lst [])) : Dp K H (.ref p) (.list []) := .lst (SqL.of hp) .nil
theorem st_eqOnil [Sca α] [DecidableEq α] [Dat α] {xs : List α} (E : Env K I H σ Γ ρ Θ) (hΓ : Γ[i]? = some (.own xs pn)) (hl : PyData.canLay0 (Dat.toD xs) = true) (hd : Dat.dep (List α) ≤ 64)
    (next : ∀ H' v, Env K I H' σ Γ (some v :: ρ) (.im (List.isEmpty xs) :: Θ) → Q v H') : tOp (rEqD K) (tVar i) (tLst tNil) σ H Q := by
  obtain ⟨p, vs, hs, hp, _, r, _⟩ := E.ownAt hΓ
  refine ⟨_, hs, Nat.zero_le _, fun q hq => ?_⟩
  have hpq : p ≠ q := fun e => by rw [e, hq] at hp; cases hp
  have E' : Env K I (upd H q (.lst [])) σ Γ ρ Θ := E.grow (Grow.newH E.same hq)
  have rp : Rep.rp K (upd I p (.lst vs)) (.ref p) xs := ⟨p, vs, rfl, upd_same, Paired.monoR (fun _ _ z => z) r⟩
  have d1 : Dp K (upd H q (.lst [])) (.ref p) (Dat.toD xs) := Dat.dp (α := List α) ⟨p, vs, rfl, by rw [upd_ne hpq]; exact hp, Paired.monoR (fun _ _ z => z) r⟩
  refine ⟨_, _, d1, paired_dp0 upd_same, shp hl hd, by decide, ?_⟩
  have e : PyData.eqv (Dat.toD xs) (.list []) = List.isEmpty xs := by
    cases xs with
    | nil => rfl
    | cons x xs => rfl
  rw [e]
  exact next _ _ (E'.pushS trivial)
theorem st_neOnil [Sca α] [DecidableEq α] [Dat α] {xs : List α} (E : Env K I H σ Γ ρ Θ) (hΓ : Γ[i]? = some (.own xs pn)) (hl : PyData.canLay0 (Dat.toD xs) = true) (hd : Dat.dep (List α) ≤ 64)
    (next : ∀ H' v, Env K I H' σ Γ (some v :: ρ) (.im (!List.isEmpty xs) :: Θ) → Q v H') : tOp (rNeD K) (tVar i) (tLst tNil) σ H Q := by
  obtain ⟨p, vs, hs, hp, _, r, _⟩ := E.ownAt hΓ
  refine ⟨_, hs, Nat.zero_le _, fun q hq => ?_⟩
  have hpq : p ≠ q := fun e => by rw [e, hq] at hp; cases hp
  have E' : Env K I (upd H q (.lst [])) σ Γ ρ Θ := E.grow (Grow.newH E.same hq)
  have d1 : Dp K (upd H q (.lst [])) (.ref p) (Dat.toD xs) := Dat.dp (α := List α) ⟨p, vs, rfl, by rw [upd_ne hpq]; exact hp, Paired.monoR (fun _ _ z => z) r⟩
  refine ⟨_, _, d1, paired_dp0 upd_same, shp hl hd, by decide, ?_⟩
  have e : PyData.eqv (Dat.toD xs) (.list []) = List.isEmpty xs := by
    cases xs with
    | nil => rfl
    | cons x xs => rfl
  rw [e]
  exact next _ _ (E'.pushS trivial)
/-! ### tests -/
theorem st_htp {b : Bool} {Q : Bool → Hp → Prop} (E : Env K I H σ Γ ρ Θ) (ht : HT K tt Γ (.ok b)) (next : Q b H) : tt σ H Q := ht.run (fun _ => False) Q E next
theorem st_htm {m : Res Bool} {k : Bool → Res ω} {Q : Bool → Hp → Prop} (E : Env K I H σ Γ ρ Θ) (ht : HT K tt Γ m) (h : wp (m.bind k) P X) (next : ∀ b, wp (k b) P X → Q b H) : tt σ H Q := ht.run X Q E (wpb h next)
theorem st_notV {b : Bool} (E : Env K I H σ Γ (some v :: ρ) (.im b :: Θ)) (next : ∀ v, Env K I H σ Γ (some v :: ρ) (.im (!b) :: Θ) → Q v H) : NotG v H Q := by
  obtain ⟨e, _⟩ := E.topS
  exact ⟨b, e, next _ (E.pop.pushS (a := !b) trivial)⟩
theorem st_vb {b : Bool} {Q : Bool → Prop} (E : Env K I H σ Γ (some v :: ρ) (.im b :: Θ)) (next : Env K I H σ Γ ρ Θ → Q b) : ∃ k, v = .bl k ∧ Q k := by
  obtain ⟨e, _⟩ := E.topS
  exact ⟨b, e, next E.pop⟩
/-! ### calls that let nothing out -/
def noX (m : Res α) : Res α := match m with | .ok a => .ok a | .exc _ => .bad | .bad => .bad
theorem wp_noX {m : Res α} {P : α → Prop} {X Y : Exn → Prop} (h : wp (noX m) P X) : wp m P Y := by
  cases m with
  | ok a => exact h
  | exc e => exact h.elim
  | bad => exact h
theorem wp_noX_bind {m : Res α} {k : α → Res ω} {Y : Exn → Prop} (h : wp ((noX m).bind k) P X) : wp m (fun a => wp (k a) P X) Y := wp_noX (wp_bind.mp h)
theorem st_callX {A B : Type} {cells : A → List Cell} {m : A → Res B} {oc : B → Cell} {vs : List V} {EX : XK} (a : A) {k : B → Res ω} (E : Env K I H σ Γ ((vs.map some).reverse ++ ρ) ((cells a).reverse ++ Θ)) (hn : vs.length = n) (hc : (cells a).length = n)
    (h : wp ((noX (m a)).bind k) P X)
    (next : ∀ b I' H' v, Env K I' H' σ Γ (some v :: ρ) (oc b :: Θ) → wp (k b) P X → Q v H') : SpM K mg n cells m oc vs H Q EX := by
  refine ⟨hn, a, I, σ ++ ρ, Γ ++ Θ, E.enter (by rw [List.length_map, hn, hc]), ?_⟩
  have h2 := wp_noX_bind (Y := fun _ => False) h
  exact wp_mono h2 (fun b q I' H' v E' => next b I' H' v (E'.leave E.1) q) fun e x => x.elim
theorem st_callOX {S A B : Type} [Own S] {cells : A → List Cell} {m : S → A → Res (B × S)} {oc : B → Cell} {vs : List V} {s : S} (a : A) {k : B × S → Res ω} (hΓ : Γ[i]? = some (.own s pn)) (h0 : σ[i]? = some (some v0))
    (E : Env K I H σ Γ ((vs.map some).reverse ++ ρ) ((cells a).reverse ++ Θ)) (hn : vs.length = n) (hc : (cells a).length = n)
    (h : wp ((noX (m s a)).bind k) P X)
    (next : ∀ b I' H' v, Env K I' H' σ (Γ.set i (.own b.2 pn)) (some v :: ρ) (oc b.1 :: Θ) → wp (k b) P X → Q v H') : SpO K mg n cells m oc (v0 :: vs) H Q (WE W σ) :=
  st_callO' a hΓ h0 E hn hc (wp_noX_bind (Y := fun _ => False) h) (fun e x => x.elim) next
end
end M
namespace M
open PySem PySem.Spec PyProof.Rows L2
def lSet {α : Type} (xs : List α) (i : Int) (y : α) : Res (List α) := match ixN xs.length i with | some k => .ok (xs.set k y) | none => .bad
def lPop {α : Type} (xs : List α) : Res (α × List α) := match xs[xs.length - 1]? with | some y => .ok (y, xs.dropLast) | none => .bad
noncomputable def lPopAt {α : Type} (xs : List α) (i : Int) : Res (α × List α) := clo (if -(2 ^ 63) ≤ i ∧ i < 2 ^ 63 then match seqIndex? i xs.length with
  | some k => (match xs[k]? with | some y => .ok (y, xs.eraseIdx k) | none => .bad)
  | none => .bad else .bad)
theorem paired_set {α : Type} {f : V → α → Prop} {v : V} {y : α} (r : f v y) : ∀ {vs : List V} {xs : List α} {k : Nat}, Paired f vs xs → Paired f (vs.set k v) (xs.set k y)
  | _, _, _, .nil => .nil
  | _, _, 0, .cons _ t => .cons r t
  | _, _, k + 1, .cons q t => .cons q (paired_set r t)
theorem paired_erase {α : Type} {f : V → α → Prop} : ∀ {vs : List V} {xs : List α} {k : Nat}, Paired f vs xs → Paired f (vs.eraseIdx k) (xs.eraseIdx k)
  | _, _, _, .nil => .nil
  | _, _, 0, .cons _ t => t
  | _, _, k + 1, .cons q t => .cons q (paired_erase t)
theorem paired_dropLast {α : Type} {f : V → α → Prop} : ∀ {vs : List V} {xs : List α}, Paired f vs xs → Paired f vs.dropLast xs.dropLast
  | _, _, .nil => .nil
  | _, _, .cons q .nil => .nil
  | _, _, .cons q (.cons r t) => .cons q (paired_dropLast (.cons r t))
section
variable {K : PySem.W.Frag} {mg : Str → Option Value} {I H I' H' : Hp} {σ σ' ρ : List (Option V)} {Γ Θ : List Cell} {i j n : Nat} {v v0 v1 v2 v3 : V} {c c1 c2 c3 c4 c5 c6 : Cell} {o1 o2 o3 o4 o5 o6 : Option V} {te tl ti : TE} {ta : TA} {tt : TT} {t u : TS} {dn db dc : L2.St → Hp → Prop} {dr : VK} {Q : VK} {W : WX}
variable {pn : Option V} {ω : Type} {P : ω → Prop} {X : Exn → Prop} {α β γ δ : Type}
theorem Env.sw0 (E : Env K I H σ Γ (o1 :: o2 :: ρ) (c1 :: c2 :: Θ)) : Env K I H σ Γ (o2 :: o1 :: ρ) (c2 :: c1 :: Θ) := E.swap
theorem Env.sw1 (E : Env K I H σ Γ (o1 :: o2 :: o3 :: ρ) (c1 :: c2 :: c3 :: Θ)) : Env K I H σ Γ (o1 :: o3 :: o2 :: ρ) (c1 :: c3 :: c2 :: Θ) :=
  E.sperm (by have := E.2.1; simpa using this) ((List.Perm.swap _ _ _).cons _)
theorem Env.sw2 (E : Env K I H σ Γ (o1 :: o2 :: o3 :: o4 :: ρ) (c1 :: c2 :: c3 :: c4 :: Θ)) : Env K I H σ Γ (o1 :: o2 :: o4 :: o3 :: ρ) (c1 :: c2 :: c4 :: c3 :: Θ) :=
  E.sperm (by have := E.2.1; simpa using this) (((List.Perm.swap _ _ _).cons _).cons _)
theorem Env.sw3 (E : Env K I H σ Γ (o1 :: o2 :: o3 :: o4 :: o5 :: ρ) (c1 :: c2 :: c3 :: c4 :: c5 :: Θ)) : Env K I H σ Γ (o1 :: o2 :: o3 :: o5 :: o4 :: ρ) (c1 :: c2 :: c3 :: c5 :: c4 :: Θ) :=
  E.sperm (by have := E.2.1; simpa using this) ((((List.Perm.swap _ _ _).cons _).cons _).cons _)
theorem Env.sw4 (E : Env K I H σ Γ (o1 :: o2 :: o3 :: o4 :: o5 :: o6 :: ρ) (c1 :: c2 :: c3 :: c4 :: c5 :: c6 :: Θ)) : Env K I H σ Γ (o1 :: o2 :: o3 :: o4 :: o6 :: o5 :: ρ) (c1 :: c2 :: c3 :: c4 :: c6 :: c5 :: Θ) :=
  E.sperm (by have := E.2.1; simpa using this) (((((List.Perm.swap _ _ _).cons _).cons _).cons _).cons _)
/-- script[lo:hi] -/
theorem st_cutScr {xs : Scr} {tl th : TO} {lo hi : Option Int} {k : List Int → Res ω} (E : Env K I H σ Γ (some v :: ρ) (.im xs :: Θ)) (hl : HSl K tl Γ (.ok lo)) (hh : HSl K th Γ (.ok hi)) (h : wp ((Res.ok (cutL xs.l lo hi)).bind k) P X)
    (next : ∀ ys I' H' v, Env K I' H' σ Γ (some v :: ρ) (.im ys :: Θ) → wp (k ys) P X → Q v H') : tl σ H fun l H2 => th σ H2 fun u H3 => rSlL K v l u H3 Q :=
  hl.run (fun _ => False) _ E (hh.run (fun _ => False) _ E (by
    obtain ⟨a, e, hq⟩ := E.topR
    subst e
    have pr : ∀ xs : List Int, Paired (fun v x => Rep.rp K I v x) (xs.map V.int) xs := fun xs => by
      induction xs with
      | nil => exact .nil
      | cons x xs ih => exact .cons ⟨rfl, trivial⟩ ih
    exact ⟨a, _, rfl, E.same.seq hq, st_newI (Env.pop E) (cut_paired (pr xs.l) lo hi) fun I' H' v E' => next _ I' H' v E' h⟩))
theorem st_augp {a b : Int} {f : Int → Int → Int} {k : Int → Res ω} (E : Env K I H σ Γ ρ Θ) (hΓ : Γ[i]? = some (.im a)) (ht : HF K te Γ (.ok b)) (h : wp ((Res.ok (f a b)).bind k) P X) (hi : i < Γ.length)
    (next : ∀ x σ', Env K I H σ' (Γ.set i (.im x)) ρ Θ → wp (k x) P X → dn σ' H) : tAug i te (ipI f) ⟨dn, dr, db, dc⟩ σ H :=
  ⟨_, (E.sca hΓ).1, ht.run (fun _ => False) _ E fun _ => ⟨a, b, rfl, rfl, next _ _ (E.setS (a := f a b) trivial hi rfl) h⟩⟩
theorem st_augm {a : Int} {m : Res Int} {f : Int → Int → Int} {k : Int → Res ω} (E : Env K I H σ Γ ρ Θ) (hΓ : Γ[i]? = some (.im a)) (ht : HF K te Γ m) (h : wp ((m.bind fun b => .ok (f a b)).bind k) P X) (hi : i < Γ.length)
    (next : ∀ x σ', Env K I H σ' (Γ.set i (.im x)) ρ Θ → wp (k x) P X → dn σ' H) : tAug i te (ipI f) ⟨dn, dr, db, dc⟩ σ H :=
  ⟨_, (E.sca hΓ).1, ht.run X _ E (by
    rw [Res.bind_assoc] at h
    exact wpb h fun b h _ => ⟨a, b, rfl, rfl, next _ _ (E.setS (a := f a b) trivial hi rfl) h⟩)⟩
/-- xs[i] = y, y on the stack -/
theorem st_setLm [Rep α] {xs : List α} {y : α} {m : Res Int} {k : List α → Res ω} {Γ' : List α → List Cell} {dn : L2.St → Hp → Prop} (E : Env K I H σ Γ (some v :: ρ) (.im y :: Θ)) (hΓ : Γ[i]? = some (.own xs pn)) (ht : HF K ti Γ m) (h : wp (m.bind fun j => (lSet xs j y).bind k) P X)
    (hs : ∀ x, Γ.set i (.own x pn) = Γ' x) (next : ∀ ys H', Env K I H' σ (Γ' ys) ρ Θ → wp (k ys) P X → dn σ H') : gSub (tVar i) ti rSetL v σ H dn := by
  obtain ⟨p, vs, hs1, hp, _, q, ch, _⟩ := E.ownAt hΓ
  refine ⟨_, hs1, ht.run X _ E (wpb h fun j h _ => ?_)⟩
  unfold lSet at h
  cases e : ixN xs.length j with
  | none => rw [e] at h; exact h.elim
  | some n =>
    rw [e] at h
    refine ⟨p, vs, j, n, rfl, rfl, hp, by rw [Paired.length q]; exact e, ?_⟩
    have z := (ch (Grow.refl E.same) _ _ (paired_set E.topR (k := n) q)).pop
    rw [hs] at z
    exact next _ _ z h
theorem st_setLp [Rep α] {xs : List α} {y : α} {j : Int} {k : List α → Res ω} {Γ' : List α → List Cell} {dn : L2.St → Hp → Prop} (E : Env K I H σ Γ (some v :: ρ) (.im y :: Θ)) (hΓ : Γ[i]? = some (.own xs pn)) (ht : HF K ti Γ (.ok j)) (h : wp ((lSet xs j y).bind k) P X)
    (hs : ∀ x, Γ.set i (.own x pn) = Γ' x) (next : ∀ ys H', Env K I H' σ (Γ' ys) ρ Θ → wp (k ys) P X → dn σ H') : gSub (tVar i) ti rSetL v σ H dn := st_setLm E hΓ ht h hs next
/-- a name for what is on the stack -/
theorem st_name [Rep α] {a : α} {k : α → Res ω} {A : Prop} (E : Env K I H σ Γ ρ (.im a :: Θ)) (h : wp ((Res.ok a).bind k) P X) (next : ∀ x, Env K I H σ Γ ρ (.im x :: Θ) → wp (k x) P X → A) : A := next a E h
theorem st_nameO [Own α] {a : α} {k : α → Res ω} {A : Prop} (E : Env K I H σ Γ ρ (.own a pn :: Θ)) (h : wp ((Res.ok a).bind k) P X) (next : ∀ x, Env K I H σ Γ ρ (.own x pn :: Θ) → wp (k x) P X → A) : A := next a E h
end
/-! ### heads, opened -/
section
variable {K : PySem.W.Frag} {σ : L2.St} {H : Hp} {Q : VK} {B : Bool → Hp → Prop} {te ta tb ti : TE} {tt tu : TT} {t tk : TA} {tl th : TO} {r : R2} {ru : V → Hp → VK → Prop} {rc : List V → Hp → VK → Prop} {rs : V → Option Int → Option Int → Hp → VK → Prop} {A : List V → Hp → Prop} {dn db dc : L2.St → Hp → Prop} {dr : VK} {s1 s2 : TS} {g : TG} {sp : Sp} {E : L2.St → XK} {R : It → Hp → Prop}
theorem uOp (h : ta σ H fun x H1 => tb σ H1 fun y H2 => OpG r x y H2 Q) : tOp r ta tb σ H Q := h
theorem uUn (h : ta σ H fun x H1 => UnG ru x H1 Q) : tUn ru ta σ H Q := h
theorem uCB (h : t σ H fun vs H1 => CbG rc vs H1 Q) : tCB rc t σ H Q := h
theorem uCons (h : ta σ H fun x H1 => t σ H1 fun xs H2 => A (x :: xs) H2) : tCons ta t σ H A := h
theorem uNil (h : A [] H) : tNil σ H A := h
theorem uLst (h : t σ H fun xs H1 => LsG xs H1 Q) : tLst t σ H Q := h
theorem uSl (h : te σ H fun x H1 => tl σ H1 fun l H2 => th σ H2 fun u H3 => rs x l u H3 Q) : tSl rs te tl th σ H Q := h
theorem uCallS (h : t σ H fun vs H1 => sp vs H1 Q (E σ)) : tCallS sp E t σ H Q := h
theorem uCallKS {n m : Nat} {gV : List V → List V → List V} (h : t σ H fun vs H1 => tk σ H1 fun zs H2 => vs.length = n ∧ zs.length = m ∧ sp (gV vs zs) H2 Q (E σ)) : tCallKS n m sp gV E t tk σ H Q := h
theorem uAndV (h : ta σ H fun x H1 => ∃ c, x = .bl c ∧ if c = true then tb σ H1 Q else Q (.bl false) H1) : tAndV ta tb σ H Q := h
theorem uOrV (h : ta σ H fun x H1 => ∃ c, x = .bl c ∧ if c = true then Q (.bl true) H1 else tb σ H1 Q) : tOrV ta tb σ H Q := h
theorem uNotV (h : ta σ H fun x H1 => NotG x H1 Q) : tNotV ta σ H Q := h
theorem uTest (h : te σ H fun x H' => ∃ k, x = .bl k ∧ B k H') : tTest te σ H B := h
theorem uB (h : te σ H fun x H' => ∃ k, x = .bl k ∧ B k H') : tB te σ H B := h
theorem uNot (h : tt σ H fun c H1 => B (!c) H1) : tNot tt σ H B := h
theorem uAnd (h : tt σ H fun c H1 => if c = true then tu σ H1 B else B false H1) : tAnd tt tu σ H B := h
theorem uOr (h : tt σ H fun c H1 => if c = true then B true H1 else tu σ H1 B) : tOr tt tu σ H B := h
theorem uDrop (h : te σ H fun _ H1 => dn σ H1) : tDrop te ⟨dn, dr, db, dc⟩ σ H := h
theorem uAsg (h : te σ H fun x H1 => g x σ H1 dn) : tAsg te g ⟨dn, dr, db, dc⟩ σ H := h
theorem uRet (h : te σ H dr) : tRet te ⟨dn, dr, db, dc⟩ σ H := h
theorem uIf (h : tt σ H fun b H1 => if b = true then s1 ⟨dn, dr, db, dc⟩ σ H1 else s2 ⟨dn, dr, db, dc⟩ σ H1) : tIfS tt s1 s2 ⟨dn, dr, db, dc⟩ σ H := h
theorem uSeq (h : s1 ⟨s2 ⟨dn, dr, db, dc⟩, dr, db, dc⟩ σ H) : tSeq s1 s2 ⟨dn, dr, db, dc⟩ σ H := h
theorem uNext (h : dn σ H) : tNext ⟨dn, dr, db, dc⟩ σ H := h
theorem uFor {wi : TI} (h : wi σ H fun J H1 => ∃ W : Nat → Nat → L2.St → Hp → Prop, (∃ m, W 0 m σ H1) ∧ ∀ i m σ H, W i m σ H →
      (J.stop i H ∧ dn σ H) ∨ (J.go i H ∧ ∃ N : L2.St → Hp → Prop, (∀ σ' H', N σ' H' → ∃ m', m' < m ∧ W (i + 1) m' σ' H') ∧ ∀ x H', J.yld i H x H' → g x σ H' fun σ2 H2 => s1 ⟨N, dr, dn, N⟩ σ2 H2)) : tFor wi g s1 ⟨dn, dr, db, dc⟩ σ H := h
theorem uLc {wi : TI} {vs : List Nat} (h : wi σ H fun J H1 => LcG J g tt te vs σ H1 Q) : tLc wi g tt te vs σ H Q := h
theorem uList (h : te σ H fun x H1 => ∃ a, x = .ref a ∧ (∃ xs, SqL K H1 a xs) ∧ R (Itl K a) H1) : iList K te σ H R := h
theorem uTup (h : te σ H fun x H1 => ∃ a, x = .ref a ∧ (∃ xs, SqT K H1 a xs) ∧ R (Itt K a) H1) : iTup K te σ H R := h
end
end M
namespace M
open PySem PySem.Spec PyProof.Rows L2
/-! ### slices with bounds on the way -/
section
variable {K : PySem.W.Frag} {mg : Str → Option Value} {I I1 H I' H' : Hp} {σ σ' ρ : List (Option V)} {Γ Γ1 Θ : List Cell} {i j n : Nat} {v v0 v1 v2 v3 : V} {te tl ti : TE} {ta : TA} {tt : TT} {t u : TS} {to : TO} {dn db dc : L2.St → Hp → Prop} {dr : VK} {Q : VK} {W : WX}
variable {pn : Option V} {ω : Type} {P : ω → Prop} {X : Exn → Prop} {α β γ δ : Type}
theorem uPart {Q : Option Int → Hp → Prop} (h : te σ H fun x H1 => ∃ i, x = .int i ∧ Q (some i) H1) : tPart te σ H Q := h
theorem st_bd {i : Int} {Q : Int → Prop} (E : Env K I H σ Γ (some v :: ρ) (.im i :: Θ)) (next : Env K I H σ Γ ρ Θ → Q i) : ∃ i, v = .int i ∧ Q i := by
  obtain ⟨e, _⟩ := E.topS
  exact ⟨i, e, next E.pop⟩
theorem st_bdp {lo : Option Int} {Q : Option Int → Hp → Prop} (E : Env K I H σ Γ ρ Θ) (hl : HSl K to Γ (.ok lo)) (next : Q lo H) : to σ H Q := hl.run (fun _ => False) _ E next
theorem st_bdm {m : Res (Option Int)} {k : Option Int → Res ω} {Q : Option Int → Hp → Prop} (E : Env K I H σ Γ ρ Θ) (hl : HSl K to Γ m) (h : wp (m.bind k) P X) (next : ∀ lo, wp (k lo) P X → Q lo H) : to σ H Q := hl.run X _ E (wpb h next)
theorem st_slT {w : Tx} {lo hi : Option Int} (E : Env K I H σ Γ (some v :: ρ) (.im w :: Θ)) (next : ∀ v, Env K I H σ Γ (some v :: ρ) (.im (cutL w lo hi) :: Θ) → Q v H) : rSlS v lo hi H Q := by
  obtain ⟨e, ok⟩ := E.topS
  subst e
  have hh : HF K (tSl rSlS (tVar 0) (fun _ H Q => Q lo H) (fun _ H Q => Q hi H)) [.im w] (.ok (cutL w lo hi)) :=
    hf_cut_p (hf_var rfl) (.mk fun X Q E q => q) (.mk fun X Q E q => q)
  have q := hh.run (I := I) (H := H) (σ := [some (enc w)]) (ρ := []) (Θ := []) (fun _ => False) Q ⟨rfl, rfl, E.same, [[]], ⟨⟨rfl, _, rfl, rfl, ok⟩, trivial⟩, by simp, by simp⟩ fun ok => next _ (E.pop.pushS ok)
  obtain ⟨v', e1, q⟩ := q
  cases e1
  exact q
theorem st_slL [Rep α] {xs : List α} {lo hi : Option Int} (E : Env K I H σ Γ (some v :: ρ) (.im xs :: Θ)) (next : ∀ I' H' v, Env K I' H' σ Γ (some v :: ρ) (.im (cutL xs lo hi) :: Θ) → Q v H') : rSlL K v lo hi H Q := by
  obtain ⟨a, vs, e, ha, p⟩ := E.topR
  subst e
  exact ⟨a, vs, rfl, SqL.of (E.same _ _ ha), st_newI (Env.pop E) (cut_paired p lo hi) fun I' H' v E' => next I' H' v E'⟩
theorem st_slLO [Rep α] {xs : List α} {lo hi : Option Int} (E : Env K I H σ Γ (some v :: ρ) (.im xs :: Θ)) (next : ∀ H' v, Env K I H' σ Γ (some v :: ρ) (.own (cutL xs lo hi) :: Θ) → Q v H') : rSlL K v lo hi H Q := by
  obtain ⟨a, vs, e, ha, p⟩ := E.topR
  subst e
  exact ⟨a, vs, rfl, SqL.of (E.same _ _ ha), st_newO (Env.pop E) (cut_paired p lo hi) fun H' v E' => next H' v E'⟩
theorem ints_paired {K : PySem.W.Frag} {I : Hp} : ∀ xs : List Int, Paired (fun v x => Rep.rp K I v x) (xs.map V.int) xs
  | [] => .nil
  | _ :: xs => .cons ⟨rfl, trivial⟩ (ints_paired xs)
theorem st_slScr {xs : Scr} {lo hi : Option Int} (E : Env K I H σ Γ (some v :: ρ) (.im xs :: Θ)) (next : ∀ I' H' v, Env K I' H' σ Γ (some v :: ρ) (.im (cutL xs.l lo hi) :: Θ) → Q v H') : rSlL K v lo hi H Q := by
  obtain ⟨a, e, hq⟩ := E.topR
  subst e
  exact ⟨a, _, rfl, E.same.seq hq, st_newI (Env.pop E) (cut_paired (ints_paired xs.l) lo hi) fun I' H' v E' => next I' H' v E'⟩

/-! ### borrowing: owned lists are read by a call and stay owned -/
structure Snap where
  I : Hp
  H : Hp
  fp : List Addr
instance ownSnap : Own Snap where
  ow K fp I H v s := fp = s.fp ∧ Same s.I I ∧ ∀ b ∈ fp, H b = s.H b
  mono := fun e k ⟨e1, e2, e3⟩ => ⟨e1, e2.trans e, fun b hb => (k b hb).trans (e3 b hb)⟩
def noOwn (c : Cell) : Cell := match c with
  | .any => .any
  | @Cell.im α r a => @Cell.im α r a
  | @Cell.own _ _ _ _ => .any
theorem wk_noOwn : ∀ Γ : List Cell, Wk Γ (Γ.map noOwn)
  | [] => trivial
  | c :: Γ => ⟨by cases c <;> first | exact .inr rfl | exact .inl rfl, wk_noOwn Γ⟩
theorem Env.weakT (E : Env K I H σ Γ ρ Θ) {Θ' : List Cell} (w : Wk Θ Θ') : Env K I H σ Γ ρ Θ' := by
  have e0 : EnvL K I H (ρ.zip Θ ++ σ.zip Γ) := E.2.2.perm List.perm_append_comm
  obtain ⟨q, l⟩ := EnvL.weak E.2.1 w e0
  exact ⟨E.1, l, q.perm List.perm_append_comm⟩
theorem Ents.noOwn0 : ∀ {es : List Ent} {fs : List (List Addr)}, (∀ e ∈ es, e.2 = noOwn e.2) → Ents K I H es fs → fs.flatten = []
  | [], [], _, _ => rfl
  | [], _ :: _, _, h => h.elim
  | _ :: _, [], _, h => h.elim
  | (o, c) :: es, f :: fs, k, h => by
    have h1 := Ents.noOwn0 (fun e he => k e (List.mem_cons_of_mem _ he)) h.2
    have h2 := h.1
    have h3 := k (o, c) (by simp)
    rw [List.flatten_cons, h1]
    cases c with
    | any => rw [show f = [] from h2]; rfl
    | im a => rw [h2.1]; rfl
    | own a pn => exact absurd h3 (fun z => nomatch z)
/-- some lists are let be -/
structure LetS (I I1 : Hp) : Prop where
  same : Same I I1
  lst : ∀ a u, I1 a = some u → I a = some u ∨ ∃ vs, u = .lst vs
theorem LetS.trans {I I1 I2 : Hp} (s : LetS I I1) (t : LetS I1 I2) : LetS I I2 := ⟨s.same.trans t.same, fun a u e => by
  rcases t.lst a u e with h | h
  · exact s.lst a u h
  · exact .inr h⟩
theorem EnvL.snap {es es1 : List Ent} (h : EnvL K I H es) (h1 : EnvL K I1 H es1) (s : LetS I I1) (hn : ∀ e ∈ es1, e.2 = noOwn e.2) : ∃ S : Snap, EnvL K I1 H ((some V.non, .own S) :: es1) ∧
    (∀ {I' H' : Hp} {o : Option V} {r : List Ent}, EnvL K I' H' ((o, .own S) :: r) → EnvL K I H' es) ∧
    ∀ {I' H' : Hp} {o : Option V} {r : List Ent} {d : Addr} {fs : List (Str × V)}, EnvL K I' H' ((some (.ref d), .im (XD.mk fs)) :: (o, .own S) :: r) → ∃ I2, EnvL K I2 H' ((some (.ref d), .im (XD.mk fs)) :: es) := by
  obtain ⟨sm, fs, e1, e2, e3⟩ := h
  obtain ⟨sm1, fs1, d1, d2, d3⟩ := h1
  have f0 := Ents.noOwn0 hn d1
  classical
  refine ⟨⟨I1, H, fs.flatten.filter fun a => decide (I1 a = none)⟩, ⟨sm1, _ :: fs1, ⟨⟨V.non, rfl, (fun _ z => nomatch z), rfl, Same.refl _, fun _ _ => rfl⟩, d1⟩, ?_, ?_⟩, fun {I' H' o r} z => ?_, fun {I' H' o r d xs} z => ?_⟩
  · rw [List.flatten_cons, f0, List.append_nil]
    exact e2.filter _
  · intro a ha
    rw [List.flatten_cons, f0, List.append_nil] at ha
    have ha := List.mem_filter.mp ha
    exact ⟨by simpa using ha.2, (e3 a ha.1).2⟩
  · obtain ⟨t1, gs, t2, t3, t4⟩ := z
    cases gs with
    | nil => exact t2.elim
    | cons g gs =>
      obtain ⟨⟨w, _, _, q1, q2, q3⟩, _⟩ := t2
      have q1 : g = _ := q1
      have q2 : Same I1 I' := q2
      have hk : ∀ a ∈ fs.flatten, H' a = H a := fun a ha => by
        cases e : I1 a with
        | none => exact q3 a (by rw [q1]; exact List.mem_filter.mpr ⟨ha, by simpa using e⟩)
        | some u => rw [t1 a u (q2 a u e), sm1 a u e]
      refine ⟨fun a u e => t1 a u (q2 a u (s.same a u e)), fs, Ents.mono (Same.refl _) hk e1, e2, fun a ha => ⟨(e3 a ha).1, ?_⟩⟩
      rw [hk a ha]
      exact (e3 a ha).2
  · obtain ⟨t1, gs, t2, t3, t4⟩ := z
    cases gs with
    | nil => exact t2.elim
    | cons g0 gs =>
      cases gs with
      | nil => exact t2.2.elim
      | cons g gs =>
        obtain ⟨⟨hg0, v0, ev0, d', ed', hxd⟩, ⟨w, _, _, q1, q2, q3⟩, _⟩ := t2
        have q1 : g = _ := q1
        have q2 : Same I1 I' := q2
        have ev0 : some (V.ref d) = some v0 := ev0
        cases ev0
        cases ed'
        have hxd : I' d = some (.xd xs) := hxd
        have hd' : H' d = some (.xd xs) := t1 _ _ hxd
        have hk : ∀ a ∈ fs.flatten, H' a = H a := fun a ha => by
          cases e : I1 a with
          | none => exact q3 a (by rw [q1]; exact List.mem_filter.mpr ⟨ha, by simpa using e⟩)
          | some u => rw [t1 a u (q2 a u e), sm1 a u e]
        have sI : Same I (upd I d (.xd xs)) := fun a u e => by
          by_cases hd : a = d
          · subst hd
            have z1 := t1 a u (q2 a u (s.same a u e))
            rw [hd'] at z1
            rw [upd_same, ← z1]
          · rw [upd_ne hd]; exact e
        have nd : ∀ a ∈ fs.flatten, a ≠ d := fun a ha hd => by
          subst hd
          cases e : I1 a with
          | none =>
            have : I' a = none := (t4 a (by
              rw [List.flatten_cons, List.flatten_cons]
              refine List.mem_append_right _ (List.mem_append_left _ ?_)
              rw [q1]; exact List.mem_filter.mpr ⟨ha, by simpa using e⟩)).1
            rw [hxd] at this
            cases this
          | some u =>
            rcases s.lst a u e with h | ⟨vs, h⟩
            · rw [(e3 a ha).1] at h; cases h
            · have z1 := t1 a u (q2 a u e)
              rw [hd', h] at z1
              cases z1
        refine ⟨upd I d (.xd xs), fun a u e => ?_, [] :: fs, ⟨⟨rfl, _, rfl, d, rfl, upd_same⟩, Ents.mono sI hk e1⟩, ?_, fun a ha => ?_⟩
        · by_cases hd : a = d
          · subst hd
            rw [upd_same] at e
            rw [← e]; exact hd'
          · rw [upd_ne hd] at e
            exact t1 a u (q2 a u (s.same a u e))
        · exact e2
        · have ha : a ∈ fs.flatten := ha
          refine ⟨by rw [upd_ne (nd a ha)]; exact (e3 a ha).1, ?_⟩
          rw [hk a ha]
          exact (e3 a ha).2
theorem noOwn_idem (c : Cell) : noOwn c = noOwn (noOwn c) := by cases c <;> rfl
theorem zip_noOwn : ∀ {o : List (Option V)} {Γ : List Cell}, ∀ e ∈ o.zip (Γ.map noOwn), e.2 = noOwn e.2 := fun {o Γ} e he => by
  obtain ⟨o1, c1⟩ := e
  have := (List.of_mem_zip he).2
  obtain ⟨c, _, e2⟩ := List.mem_map.mp this
  rw [← e2]
  exact noOwn_idem c
/-- before such a call; E1: the same where what the call reads is let be -/
theorem Env.borrow (E : Env K I H σ Γ ρ Θ) (E1 : Env K I1 H σ Γ1 ρ Θ) (s : LetS I I1) : ∃ S : Snap, Env K I1 H σ (Γ1.map noOwn) (some V.non :: ρ) (.own S :: Θ.map noOwn) ∧
    (∀ {β : Type} [Sca β] {b : β} {I' H' : Hp} {v : V} {σ2 : List (Option V)} {Γ2 Θ2 : List Cell} {o : Option V} {ρ2 : List (Option V)}, Env K I' H' σ2 Γ2 (some v :: o :: ρ2) (.im b :: .own S :: Θ2) → Env K I H' σ Γ (some v :: ρ) (.im b :: Θ)) ∧
    (∀ {I' H' : Hp} {σ2 : List (Option V)} {Γ2 Θ2 : List Cell} {o : Option V} {ρ2 : List (Option V)} {d : Addr} {fs : List (Str × V)}, Env K I' H' σ2 Γ2 (some (.ref d) :: o :: ρ2) (.im (XD.mk fs) :: .own S :: Θ2) → ∃ I2, Env K I2 H' σ Γ (some (.ref d) :: ρ) (.im (XD.mk fs) :: Θ)) := by
  have E2 := (E1.weak (wk_noOwn Γ1)).weakT (wk_noOwn Θ)
  obtain ⟨S, a, b, b2⟩ := E.2.2.snap E2.2.2 s fun e he => by
    rcases List.mem_append.mp he with he | he
    · exact zip_noOwn e he
    · exact zip_noOwn e he
  refine ⟨S, E2.toStack a, fun {β _ b' I' H' v σ2 Γ2 Θ2 o ρ2} Z => ?_, fun {I' H' σ2 Γ2 Θ2 o ρ2 d fs} Z => ?_⟩
  · have z := b Z.pop.unstack
    have r := Z.topS
    have E3 : Env K I H' σ Γ ρ Θ := ⟨E.1, E.2.1, z⟩
    rw [r.1]
    exact E3.pushS r.2
  · have z0 : EnvL K I' H' ((some (.ref d), .im (XD.mk fs)) :: (o, .own S) :: (σ2.zip Γ2 ++ ρ2.zip Θ2)) := by
      refine Z.2.2.perm ?_
      show (σ2.zip Γ2 ++ ((some (V.ref d), Cell.im (XD.mk fs)) :: (o, Cell.own S) :: ρ2.zip Θ2)).Perm _
      exact List.perm_middle.trans (List.Perm.cons _ List.perm_middle)
    obtain ⟨I2, z⟩ := b2 z0
    exact ⟨I2, E.1, by simp [E.2.1], z.perm List.perm_middle.symm⟩
/-- a slot is let be, what was is kept in mind -/
theorem Env.let [Rep α] {xs : List α} (E : Env K I H σ Γ ρ Θ) (hΓ : Γ[i]? = some (.own xs pn)) : ∃ I1, LetS I I1 ∧ Env K I1 H σ (Γ.set i (.im xs)) ρ Θ := by
  obtain ⟨p, vs, _, hp, pI, _, _, fz⟩ := E.ownAt hΓ
  refine ⟨_, ⟨fun a u e => ?_, fun a u e => ?_⟩, fz⟩
  · rw [upd_ne (ne_of_none e pI)]
    exact e
  · by_cases h : a = p
    · subst h
      rw [upd_same] at e
      exact .inr ⟨vs, (Option.some.inj e).symm⟩
    · rw [upd_ne h] at e
      exact .inl e
end
end M
namespace M
open PySem PySem.Spec PyProof.Rows L2
/-! ### a law's source of draws: [cells, seed, n] -/
structure Src where
  cells : List Int
  seed : Int
  n : Int
/-- its root alone -/
structure SrcH where
  q : Addr
  seed : Int
  n : Int
instance ownSrcH : Own SrcH where
  ow K fp I H v s := ∃ p, v = .ref p ∧ fp = [p] ∧ H p = some (.lst [.ref s.q, .int s.seed, .int s.n])
  mono := fun e k ⟨p, e1, e2, h⟩ => ⟨p, e1, e2, by subst e2; rw [k p (by simp)]; exact h⟩
instance ownSrc : Own Src where
  ow K fp I H v s := ∃ p q, v = .ref p ∧ fp = [p, q] ∧ H p = some (.lst [.ref q, .int s.seed, .int s.n]) ∧ H q = some (.lst (s.cells.map V.int))
  mono := fun e k ⟨p, q, e1, e2, h1, h2⟩ => ⟨p, q, e1, e2, by subst e2; rw [k p (by simp)]; exact h1, by subst e2; rw [k q (by simp)]; exact h2⟩
theorem ints_of {K : PySem.W.Frag} {I : Hp} : ∀ {vs : List V} {xs : List Int}, Paired (fun v x => Rep.rp K I v x) vs xs → vs = xs.map V.int
  | _, _, .nil => rfl
  | _, _, .cons r t => by
    have r' : _ = V.int _ ∧ True := r
    rw [r'.1, ints_of t]
    rfl
section
variable {K : PySem.W.Frag} {mg : Str → Option Value} {I I1 H I' H' : Hp} {σ σ' ρ : List (Option V)} {Γ Γ' Γ1 Θ : List Cell} {es : List Ent} {i j n : Nat} {v v0 v1 v2 v3 : V} {te tl ti : TE} {ta : TA} {tt : TT} {t u : TS} {to : TO} {dn db dc : L2.St → Hp → Prop} {dr : VK} {Q : VK} {W : WX}
variable {pn : Option V} {o : Option V} {ω : Type} {P : ω → Prop} {X : Exn → Prop} {α β γ δ : Type}
/-- taken apart -/
theorem EnvL.srcOpen {s : Src} (h : EnvL K I H ((o, .own s pn) :: es)) : ∃ q, EnvL K I H ((o, .own (⟨q, s.seed, s.n⟩ : SrcH) pn) :: (some (.ref q), .own s.cells (some (.ref q))) :: es) ∧ ∃ p, o = some (.ref p) ∧ H p = some (.lst [.ref q, .int s.seed, .int s.n]) := by
  obtain ⟨sm, fs, h1, h2, h3⟩ := h
  cases fs with
  | nil => exact h1.elim
  | cons f fs =>
    obtain ⟨⟨v, e1, e0, p, q, e2, e3, hp, hq⟩, h1⟩ := h1
    subst e3
    refine ⟨q, ⟨sm, [p] :: [q] :: fs, ⟨⟨v, e1, e0, p, e2, rfl, hp⟩, ⟨_, rfl, (fun w e => Option.some.inj e), q, _, rfl, rfl, hq, ints_paired _⟩, h1⟩, ?_, ?_⟩, p, ?_, hp⟩
    · exact h2
    · exact h3
    · have e1 : o = some v := e1
      rw [e1, e2]
/-- put together -/
theorem EnvL.srcClose {s : SrcH} {xs : List Int} {o2 : Option V} (h : EnvL K I H ((o, .own s pn) :: (o2, .own xs (some (.ref s.q))) :: es)) : EnvL K I H ((o, .own (⟨xs, s.seed, s.n⟩ : Src) pn) :: (o2, .any) :: es) := by
  obtain ⟨sm, fs, h1, h2, h3⟩ := h
  cases fs with
  | nil => exact h1.elim
  | cons f fs =>
    cases fs with
    | nil => exact h1.2.elim
    | cons g fs =>
      obtain ⟨⟨v, e1, e0, p, e2, e3, hp⟩, ⟨v2, d1, d0, q, vs, d2, d3, hq, r⟩, h1⟩ := h1
      subst e3 d3
      have hv : v2 = .ref s.q := d0 _ rfl
      have hqq : q = s.q := V.ref.inj (d2.symm.trans hv)
      subst hqq
      refine ⟨sm, [p, s.q] :: [] :: fs, ⟨⟨v, e1, e0, p, s.q, e2, rfl, hp, by rw [hq, ints_of r]⟩, rfl, h1⟩, ?_, ?_⟩
      · exact h2
      · exact h3
/-- two slots, alone -/
theorem Env.pick0 {c : Cell} (E : Env K I H σ (c :: Γ) ρ Θ) : ∃ o σ1, σ = o :: σ1 ∧ EnvL K I H ((o, c) :: (σ1.zip Γ ++ ρ.zip Θ)) ∧ σ1.length = Γ.length := by
  cases σ with
  | nil => have := E.1; simp at this
  | cons o σ => exact ⟨o, σ, rfl, E.2.2, by have := E.1; simpa using this⟩
theorem zip_at' {σ : List (Option V)} (l : σ.length = Γ.length) {c : Cell} (h : Γ[i]? = some c) : ∃ o, σ[i]? = some o := by
  have hl : i < Γ.length := (List.getElem?_eq_some_iff.mp h).1
  exact ⟨σ[i]'(by rw [l]; exact hl), List.getElem?_eq_getElem _⟩
/-- great = source[0] -/
theorem st_srcOpen {s : Src} (E : Env K I H σ (.own s pn :: Γ) ρ Θ) (hi : i < Γ.length)
    (next : ∀ q σ', Env K I H σ' (.own (⟨q, s.seed, s.n⟩ : SrcH) pn :: Γ.set i (.own s.cells (some (.ref q)))) ρ Θ → dn σ' H) : tAsg (tOp (rIxL K) (tVar 0) (tC (.int 0))) (gName (i + 1)) ⟨dn, dr, db, dc⟩ σ H := by
  obtain ⟨o, σ1, rfl, e, l⟩ := E.pick0
  obtain ⟨q, e2, p, rfl, hp⟩ := e.srcOpen
  refine ⟨_, rfl, p, _, 0, .ref q, rfl, rfl, SqL.of hp, rfl, next q _ ?_⟩
  have E2 : Env K I H (some (.ref p) :: σ1) (.own (⟨q, s.seed, s.n⟩ : SrcH) pn :: Γ) (some (.ref q) :: ρ) (.own s.cells (some (.ref q)) :: Θ) :=
    ⟨E.1, by simp [E.2.1], e2.perm (List.Perm.cons _ List.perm_middle.symm)⟩
  exact E2.store (i := i + 1) (by simpa using hi) rfl
theorem hf_src1 {s : SrcH} (hΓ : Γ[0]? = some (.own s pn)) : HF K (tOp (rIxL K) (tVar 0) (tC (.int 1))) Γ (.ok s.seed) := .mk fun X Q E q => by
  obtain ⟨o, r, ho, e, _⟩ := E.pick hΓ
  obtain ⟨_, fs, h1, _⟩ := e
  cases fs with
  | nil => exact h1.elim
  | cons f fs =>
    obtain ⟨v, e1, _, p, e2, _, hp⟩ := h1.1
    have e1 : o = some v := e1
    subst e1 e2
    exact ⟨_, ho, p, _, 1, _, rfl, rfl, SqL.of hp, rfl, q trivial⟩
theorem hf_src2 {s : SrcH} (hΓ : Γ[0]? = some (.own s pn)) : HF K (tOp (rIxL K) (tVar 0) (tC (.int 2))) Γ (.ok s.n) := .mk fun X Q E q => by
  obtain ⟨o, r, ho, e, _⟩ := E.pick hΓ
  obtain ⟨_, fs, h1, _⟩ := e
  cases fs with
  | nil => exact h1.elim
  | cons f fs =>
    obtain ⟨v, e1, _, p, e2, _, hp⟩ := h1.1
    have e1 : o = some v := e1
    subst e1 e2
    exact ⟨_, ho, p, _, 2, _, rfl, rfl, SqL.of hp, rfl, q trivial⟩
/-- source[2] = e -/
theorem EnvL.srcSet {s : SrcH} {p : Addr} {y : Int} (h : EnvL K I H ((some (.ref p), .own s pn) :: es)) : EnvL K I (upd H p (.lst [.ref s.q, .int s.seed, .int y])) ((some (.ref p), .own (⟨s.q, s.seed, y⟩ : SrcH) pn) :: es) := by
  obtain ⟨sm, fs, h1, h2, h3⟩ := h
  cases fs with
  | nil => exact h1.elim
  | cons f fs =>
    obtain ⟨⟨v, e1, e0, p', e2, e3, hp⟩, h1⟩ := h1
    cases e1
    cases e2
    subst e3
    rw [List.flatten_cons] at h2 h3
    have hn := List.nodup_append.mp h2
    have npf : ∀ a ∈ fs.flatten, a ≠ p := fun a ha q => hn.2.2 p (by simp) a ha q.symm
    have pI := (h3 p (by simp)).1
    refine ⟨fun a u e => ?_, [p] :: fs, ⟨⟨_, rfl, e0, p, rfl, rfl, upd_same⟩, Ents.mono (Same.refl _) (fun a ha => upd_ne (npf a ha)) h1⟩, by rw [List.flatten_cons]; exact h2, fun a ha => ?_⟩
    · rw [upd_ne (ne_of_none e pI)]
      exact sm a u e
    · rw [List.flatten_cons] at ha
      refine ⟨(h3 a ha).1, ?_⟩
      by_cases hap : a = p
      · rw [hap, upd_same]; exact fun z => nomatch z
      · rw [upd_ne hap]; exact (h3 a ha).2
theorem st_srcSet {s : SrcH} {y : Int} {dn : L2.St → Hp → Prop} (E : Env K I H σ (.own s pn :: Γ) (some v :: ρ) (.im y :: Θ))
    (next : ∀ H', Env K I H' σ (.own (⟨s.q, s.seed, y⟩ : SrcH) pn :: Γ) ρ Θ → dn σ H') : gSub (tVar 0) (tC (.int 2)) rSetL v σ H dn := by
  obtain ⟨ev, _⟩ := E.topS
  subst ev
  obtain ⟨o, σ1, rfl, e, l⟩ := (Env.pop E).pick0
  obtain ⟨_, fs, h1, _⟩ := id e
  cases fs with
  | nil => exact h1.elim
  | cons f fs =>
    obtain ⟨w, e1, _, p, e2, _, hp⟩ := h1.1
    have e1 : o = some w := e1
    subst e1 e2
    exact ⟨_, rfl, p, _, 2, 2, rfl, rfl, hp, rfl, next _ ⟨E.1, E.len, e.srcSet⟩⟩
/-- at the end -/
theorem Env.srcClose {s : SrcH} {xs : List Int} {c1 : Cell} (E : Env K I H σ (.own s pn :: c1 :: .own xs (some (.ref s.q)) :: Γ) ρ Θ) : Env K I H σ (.own (⟨xs, s.seed, s.n⟩ : Src) pn :: c1 :: .any :: Γ) ρ Θ := by
  obtain ⟨o, σ1, rfl, e, l⟩ := E.pick0
  cases σ1 with
  | nil => simp at l
  | cons o1 σ1 =>
    cases σ1 with
    | nil => simp at l
    | cons o2 σ1 =>
      refine ⟨E.1, E.2.1, ?_⟩
      have p1 : ((o, Cell.own s pn) :: ((o1 :: o2 :: σ1).zip (c1 :: .own xs (some (.ref s.q)) :: Γ) ++ ρ.zip Θ)).Perm ((o, Cell.own s pn) :: (o2, .own xs (some (.ref s.q))) :: (o1, c1) :: (σ1.zip Γ ++ ρ.zip Θ)) := (List.Perm.swap _ _ _).cons _
      have z := (e.perm p1).srcClose
      exact z.perm ((List.Perm.swap _ _ _).cons _)
/-- [cells, seed, n] -/
theorem st_newSrc {a b : Int} {xs : List Int} (E : Env K I H σ Γ (some v3 :: some v2 :: some v1 :: ρ) (.im b :: .im a :: .own xs pn :: Θ)) (next : ∀ H' v, Env K I H' σ Γ (some v :: ρ) (.own (⟨xs, a, b⟩ : Src) :: Θ) → Q v H') :
    LsG [v1, v2, v3] H Q := by
  refine ⟨line_of (by decide : (3 : Nat) ≤ line), fun p hp => next _ _ ?_⟩
  obtain ⟨e3, _⟩ := E.topS
  obtain ⟨e2, _⟩ := E.pop.topS
  subst e3 e2
  have e := E.pop.pop.unstack
  have hI := e.none_of hp
  obtain ⟨sm, fs, h1, h2, h3⟩ := e
  cases fs with
  | nil => exact h1.elim
  | cons f fs =>
    obtain ⟨⟨w, d1, _, q, vs, d2, d3, hq, r⟩, h1⟩ := h1
    have d1 : v1 = w := Option.some.inj d1
    subst d1 d2 d3
    have hn : ∀ a ∈ ([q] :: fs).flatten, a ≠ p := fun a ha z => (h3 a ha).2 (by rw [z]; exact hp)
    have hqp : q ≠ p := hn q (by simp)
    refine ⟨E.1, by have := E.pop.pop.len; simpa using this, ?_⟩
    have z : EnvL K I (upd H p (.lst [.ref q, enc a, enc b])) ((some (.ref p), .own (⟨xs, a, b⟩ : Src)) :: (σ.zip Γ ++ ρ.zip Θ)) := by
      refine ⟨fun a u e => ?_, [p, q] :: fs, ⟨⟨_, rfl, (fun _ z => nomatch z), p, q, rfl, rfl, upd_same, by rw [upd_ne hqp, hq, ints_of r]⟩, Ents.mono (Same.refl _) (fun a ha => upd_ne (hn a (by simp at ha ⊢; exact .inr ha))) h1⟩, ?_, fun a ha => ?_⟩
      · rw [upd_ne (ne_of_none e hI)]
        exact sm a u e
      · show (p :: ([q] :: fs).flatten).Nodup
        exact List.nodup_cons.mpr ⟨fun z => hn p z rfl, h2⟩
      · have ha : a ∈ p :: ([q] :: fs).flatten := ha
        rcases List.mem_cons.mp ha with ha | ha
        · subst ha
          exact ⟨hI, by rw [upd_same]; exact fun z => nomatch z⟩
        · exact ⟨(h3 a ha).1, by rw [upd_ne (hn a ha)]; exact (h3 a ha).2⟩
    exact z.perm List.perm_middle.symm
/-! pop -/
theorem st_popAt [Rep α] {xs : List α} {k : α × List α → Res ω} {l : Addr} {m : Int} (E : Env K I H σ Γ (some v :: ρ) (.im m :: Θ)) (hl : σ[i]? = some (some (.ref l))) (hΓ : Γ[i]? = some (.own xs pn)) (h : wp ((lPopAt xs m).bind k) P X)
    (next : ∀ y H' w, Env K I H' σ (Γ.set i (.own y.2 pn)) (some w :: ρ) (.im y.1 :: Θ) → wp (k y) P X → Q w H') : rPopAt (.ref l) [v] H Q := by
  obtain ⟨ev, _⟩ := E.topS
  subst ev
  obtain ⟨p, vs, hs, hp, _, q, ch, _⟩ := (Env.pop E).ownAt hΓ
  have e : l = p := by
    rw [hl] at hs
    exact V.ref.inj (Option.some.inj (Option.some.inj hs))
  subst e
  have hlen : vs.length = xs.length := Paired.length q
  unfold lPopAt at h
  rw [clo_eq] at h
  split at h
  · rename_i hb
    cases e2 : seqIndex? m xs.length with
    | none => rw [e2] at h; exact h.elim
    | some n =>
      rw [e2] at h
      dsimp only at h
      cases e3 : xs[n]? with
      | none => rw [e3] at h; exact h.elim
      | some y =>
        rw [e3] at h
        have hn := (List.getElem?_eq_some_iff.mp e3).1
        have hv : vs[n]? = some (vs[n]'(by omega)) := List.getElem?_eq_getElem (by omega)
        refine ⟨l, vs, m, n, _, rfl, rfl, hp, hb.1, hb.2, by rw [hlen]; exact e2, hv, next (y, xs.eraseIdx n) _ _ ?_ h⟩
        exact (ch (Grow.refl E.same) _ _ (paired_erase (k := n) q)).push (paired_at q hv e3)
  · exact h.elim
theorem st_pop [Rep α] {xs : List α} {k : α × List α → Res ω} {l : Addr} (E : Env K I H σ Γ ρ Θ) (hl : σ[i]? = some (some (.ref l))) (hΓ : Γ[i]? = some (.own xs pn)) (h : wp ((lPop xs).bind k) P X)
    (next : ∀ y H' w, Env K I H' σ (Γ.set i (.own y.2 pn)) (some w :: ρ) (.im y.1 :: Θ) → wp (k y) P X → Q w H') : rPop (.ref l) [] H Q := by
  obtain ⟨p, vs, hs, hp, _, q, ch, _⟩ := E.ownAt hΓ
  have e : l = p := by
    rw [hl] at hs
    exact V.ref.inj (Option.some.inj (Option.some.inj hs))
  subst e
  have hlen : vs.length = xs.length := Paired.length q
  unfold lPop at h
  cases e3 : xs[xs.length - 1]? with
  | none => rw [e3] at h; exact h.elim
  | some y =>
    rw [e3] at h
    have hn := (List.getElem?_eq_some_iff.mp e3).1
    obtain ⟨w, hv⟩ : ∃ w, vs[xs.length - 1]? = some w := ⟨_, List.getElem?_eq_getElem (by omega)⟩
    refine ⟨l, vs, w, rfl, rfl, hp, by rw [hlen]; exact hv, next (y, xs.dropLast) _ _ ?_ h⟩
    exact (ch (Grow.refl E.same) _ _ (paired_dropLast q)).push (paired_at q hv e3)
end
end M
namespace M
open PySem PySem.Spec PyProof.Rows L2
/-! ### defs that raise, exceptions without a context -/
theorem passN {X : Cx} : Passes (L2N.CX X.prog X.w) X E0 := fun _ _ _ _ _ _ _ h => by
  obtain ⟨_, _, _, _, _, _, _, _, _, _, _, _, z⟩ := h
  exact z.elim
theorem takesN0 {X : Cx} : L2N.Takes X (fun _ _ _ _ => False) := fun _ _ x => by
  obtain ⟨_, _, _, _, _, _, _, _, _, _, _, _, _, _, _, _, z⟩ := x
  exact z.elim
section
variable {P : Program} {w : World} {K : PySem.W.Frag} {mg : Str → Option Value} {base : Heap}
theorem okN {x qual : Str} {st : Stmt} {f : Addr} {fd : FuncData} {N ps : List Str} {k : Nat} {sp : Sp} (F : Fun K x qual st f fd) (S : FnScope N ps (defScope st)) (len : ∀ vs H Q E, sp vs H Q E → vs.length = ps.length)
    (hbody : ∀ (cdv : Value) (A : Around) (outer : List PySem.Env) (s : Shared) (H : Hp) (vs : List V) (Q : VK) (E : XK), Room k (A.deeper (envOfC qual (defScope st) s.heap.objs.size f cdv)) → sp vs H Q E →
      ∃ t, PSs (cxOf (L2N.CX P w) P w K mg base N qual (defScope st) f cdv A outer s H E) (defBody st) t ∧ t { nx := fun _ H' => Q .non H', rt := Q } (L2.start N vs) H) : FnOk P w K mg base (L2N.CX P w) (k + 1) f fd ps sp := by
  obtain ⟨oc, od, kV, doc, pm, an, cdv, ct, osl, rfl, lk, hcd⟩ := F.ex
  exact fn_of lk hcd S len fun A outer s H vs Q E hr hsp => hbody cdv A outer s H vs Q E hr hsp
theorem okH {x qual : Str} {st : Stmt} {f : Addr} {fd : FuncData} {N ps : List Str} {k : Nat} {sp : Sp} (F : Fun K x qual st f fd) (S : FnScope N ps (defScope st)) (len : ∀ vs H Q E, sp vs H Q E → vs.length = ps.length)
    (hbody : ∀ (cdv : Value) (A : Around) (outer : List PySem.Env) (s : Shared) (H : Hp) (vs : List V) (Q : VK) (E : XK) (p : Addr × Obj), L2H.Hot1 A p → L2H.RoomH k (A.deeper (envOfC qual (defScope st) s.heap.objs.size f cdv)) → sp vs H Q E →
      ∃ t, PSs (L2H.cxH (L2N.CX P w) P w K mg base N qual (defScope st) f cdv A outer s H E p) (defBody st) t ∧ t { nx := fun _ H' => Q .non H', rt := Q } (L2.start N vs) H) : L2H.FnH P w K mg base (L2N.CX P w) (k + 1) f fd ps sp := by
  obtain ⟨oc, od, kV, doc, pm, an, cdv, ct, osl, rfl, lk, hcd⟩ := F.ex
  exact L2H.fn_ofH lk hcd S len fun A outer s H vs Q E p hot hr hsp => hbody cdv A outer s H vs Q E p hot hr hsp
end
/-- C(e, ..), an own exception with __init__, made where none is handled -/
theorem pmk_oexN {X : Cx} {CX : CXT} {x : Str} {e : Expr} {es : List Expr} {ta : TA} {p pos : Pos} {C fI : Addr} {k : Nat} {fd : FuncData} {ps : List Str} {sp : Sp} (T : OexC X.K C) (iC : PySem.W.findIn X.K (.ref C) "__init__" = some (some (.ref fI)))
    (tI : PySem.W.typeIn X.K (.ref fI) = some (.type "function")) (F1 : FnOk X.prog X.w X.K X.mg X.base CX k fI fd ps sp) (hr : Room (k + 1) X.A) (hb : Binds X.K fd ps []) (hx : Passes CX X (fun _ _ _ => False)) (hg : Gl X x) (hm : X.mg x = some (.ref C)) (ha : PA X (e :: es) ta)
    (hdb : (x == ("__debug__" : Str)) = false := by decide) (he : starEach (e :: es) X.env = (false, eval e X.env) :: starEach es X.env := by rfl) (hpl : (backTo pos (starEach es X.env)).any (·.1) = false := by rfl) :
    L2N.PMk X (.Call (.Name x p) (e :: es) [] pos) (tMkO C sp [] ta) := by
  intro pins s σ H Q I h
  obtain ⟨nm, q, N, bs, bm, sn, sub, ab, col, dd, k0, k1, k2, k3, k5, hC, hbm⟩ := T.cls
  refine wpAny_Call_Name_kw (ld_glob I hg hm ?_ hdb)
  refine PySem.W.callWith_K (h₀ := X.base) I.ok.mod.kin T.kC (thn (ha.run pos pins s σ H _ I h) fun us s1 ⟨vs, H1, I1, r1, hz, q1⟩ => ⟨I1.kIn, ?_⟩) he hpl
  show wpAny _ _ (call (.ref C) us) _ _ _
  obtain ⟨hp, g, dr, tk, os⟩ := s1
  have hsz : hp.objs.size ≤ hp.objs.size + 1 := Nat.le_succ _
  have hn : H1 (hp.objs.size + 1) = none := I1.hok.fresh hsz
  have hq := q1 (hp.objs.size + 1) hn
  rw [List.append_nil] at hq
  have kk : ∀ b o, hp.get? b = some o → ((hp.push (PySem.W.kdv_tup us)).push (PySem.HandSPX.excO C hp.objs.size)).get? b = some o := fun b o e => Heap.get?_push_of_some _ (Heap.get?_push_of_some _ e)
  have hget : ((hp.push (PySem.W.kdv_tup us)).push (PySem.HandSPX.excO C hp.objs.size)).get? (hp.objs.size + 1) = some (PySem.HandSPX.excO C hp.objs.size) := by heap_get
  have I2 : Inv X pins σ (upd H1 (hp.objs.size + 1) (exo (hp.objs.size + 1) C none)) ⟨(hp.push (PySem.W.kdv_tup us)).push (PySem.HandSPX.excO C hp.objs.size), g, dr, tk, os⟩ :=
    I1.laid (t' := tk) (a := hp.objs.size + 1) (o := exo (hp.objs.size + 1) C none) (h' := (hp.push (PySem.W.kdv_tup us)).push (PySem.HandSPX.excO C hp.objs.size)) kk hsz (exo_ok hget)
  have r2 : Vals (V.ref (hp.objs.size + 1) :: vs) (Value.ref (hp.objs.size + 1) :: us) := .cons rfl r1
  have hl : (Value.ref (hp.objs.size + 1) :: us ++ []).length = ps.length := by
    have e := r2.length
    rw [F1.len _ _ _ _ hq] at e
    rw [List.append_nil]
    exact e.symm
  have hus : us.length ≤ sizeLine := by
    rw [← Paired.length r1, sizeLine_eq]
    omega
  have b2 := hb _ (Value.ref (hp.objs.size + 1) :: us) I2.kIn hl
  rw [List.append_nil] at b2
  refine wpAny_call (PySem.HandSPX.call_own F.excBase_ValueError (fun Y => PySem.HandSPX.refsVE_contains Y bm hbm) (I1.kIn _ _ hC) (PySem.W.looks_findIn I1.kIn iC) (fun self => PySem.W.bind_fn I1.kIn self tI) hus
    (codeAny_mono (F1.run _ X.stack _ _ ⟨Value.ref (hp.objs.size + 1) :: us, []⟩ (Value.ref (hp.objs.size + 1) :: us) _ _ (fun _ _ _ => False) (hr.make C us []) (I2.env0.make C us []) b2 r2 hq) fun r s' hq' => ?_))
  cases r with
  | error er => exact hx pins σ _ _ er s' I2 hq'
  | ok fl =>
    cases fl with
    | ret u =>
      obtain ⟨v, H2, os2, bare2, un2, hok2, rv, ev, d, fs, ea, ed, hd1, q2⟩ := hq'
      subst ev
      obtain ⟨h2, g2, d2, t2, os'⟩ := s'
      obtain ⟨t0, G, J, kG, ge, hoe, na⟩ := mk_end0 (d2 := d2) (t2 := t2) I1 hsz kk un2 hok2 os2 bare2 ea ed hd1
      refine ⟨rv, hp.objs.size + 1, _, _, ⟨G, g2, d2, t2, os'⟩, _, .ref C, some d, rfl, J, kG, ge, hoe, ⟨rfl, rfl, fun vs hv => ?_⟩, rfl, rfl, na, rfl, bare2, raises_own T.exC T.tyC, q2⟩
      cases hv
      rfl
    | next => exact False.elim hq'
    | brk => exact False.elim hq'
    | cont => exact False.elim hq'
/-- what the top says of such a class -/
structure ExcN (P : Program) (w : World) (K : PySem.W.Frag) (mg : Str → Option Value) (base : Heap) (x f : Str) (C fI : Addr) (fd : FuncData) : Prop where
  gC : mg x = some (.ref C)
  T : OexC K C
  iC : PySem.W.findIn K (.ref C) "__init__" = some (some (.ref fI))
  tI : PySem.W.typeIn K (.ref fI) = some (.type "function")
  ini : FnOk P w K mg base (L2N.CX P w) 1 fI fd ["self", f] (spIni C f)
  bI : Binds K fd ["self", f] []
  ec : ExcC K C
  xf : XfC K C
  no : PySem.W.findIn K (.ref C) f = some none
end M
namespace PySem.W
open PySem PySem.Spec PySem.Calls PyProof.Rows
section
variable {prog : Program} {w : World} {A : Around} {E : Value → Shared → Prop} {s : Shared} {K : Frag} {x D : Addr} {ox : Obj} {od : Option Obj}
/-- a caught error's class, whatever fields it bears -/
theorem kit_excM (C : L2.ExcC K D) : KitX K (.ref x) (.ref D) (fun h => InstAt h x ox D od) where
  ty := fun _ _ _ I => I.type
  it := fun M h X I => by
    obtain ⟨cdD, hcD, _⟩ := any_some C.hd
    unfold clsIn at hcD
    split at hcD
    · rename_i c' d' cd' sl' ho
      intro A' Q' E' s' k q
      unfold isType loadHead
      exact wpAny_bind (wpAny_loadPart (k _ _ (X _ _ ho)) (wpAny_pure q))
    · cases hcD
  ne := fun h tp dd its n sl X htp => (handS_kitx_exc (x := x) (ox := ox) C.hg C.hk C.hs C.hd C.ha C.hn C.ht C.hm).ne h tp dd its n sl X htp
  ca := fun {prog w A E Q s} X I h => by
    have hf : findObj K D od "__class__" = some (.bind (.builtin "getset_descriptor.__get__") (.builtin "object.__class__")) := by
      obtain ⟨cd, hc, _⟩ := any_some C.hd
      unfold findObj
      rw [hc, Option.bind_some, C.ha, Option.bind_some]
      simp [C.hn, C.ht]
    obtain ⟨hp, g, d, t, os⟩ := s
    have L0 := I.type (M := model prog w)
    have L1 := looks_findIn (M := model prog w) X C.hg
    have L2 := looks_findIn (M := model prog w) X C.hk
    have L3 := looks_find (M := model prog w) X I hf
    have sub : Looks (model prog w) hp (isInstance (.ref x) (.type "BaseException")) true := L0.andThen (looks_subIn X C.hs)
    have hx2 : (Value.builtin "BaseException.__getattribute__" == Value.builtin "object.__getattribute__") = false := by decide +kernel
    have hx1 : (onTheHeap (Value.ref D) && Value.builtin "BaseException.__getattribute__" == Value.builtin "object.__getattribute__") = false := by rw [hx2]; rfl
    unfold getAttr? getAttrBy? getAttrBy
    refine wpAny_bind (wpAny_mkText (wpAny_bind (wpAny_attempt (wpAny_holding (wpAny_bind (L0.at (wpAny_bind (L1.at ?_))))))))
    show wpAny _ _ (if (onTheHeap (Value.ref D) && Value.builtin "BaseException.__getattribute__" == Value.builtin "object.__getattribute__") = true then _ else _) _ _ _
    rw [hx1, if_neg Bool.false_ne_true]
    unfold getAttrByItsOwn hookBefore
    refine wpAny_bind ?_
    rw [if_pos (show onTheHeap (Value.ref D) = true from rfl)]
    refine L2.at (wpAny_bind (wpAny_attempt (wpAny_holding ?_)))
    unfold callGetattribute
    rw [show (false && onTheHeap (Value.builtin "BaseException.__getattribute__")) = false from rfl, if_neg Bool.false_ne_true]
    unfold boundAndCalled
    rw [PySem.F.excAttr_ValueError.ga.bind (.ref x)]
    refine wpAny_bind (wpAny_pure ?_)
    show wpAny _ _ (call (.builtin "BaseException.__getattribute__") [.ref x, .str "__class__" t]) _ _ _
    refine wpAny_call (codeAny_call_builtin PySem.F.excAttr_ValueError.ga.plain PySem.F.entry_bexc_ga ?_)
    refine @check_slot (model prog w) _ _ ⟨hp, g, d, t + 1, os⟩ "BaseException.__getattribute__" "BaseException" "__getattribute__" (.ref x) [.str "__class__" t] [] _ (by decide +kernel) (by decide +kernel) sub (PySem.F.args_bexc_ga (.ref x) (.str "__class__" t)) ?_
    unfold Builtin.«object.__getattribute__»
    refine wpAny_bind (wpAny_of_eq (a := ((Value.ref x : Value), [Value.str "__class__" t])) (by first | rfl | (simp only [slotArgs]; rfl)) ?_)
    refine wpAny_bind (wpAny_pure (wpAny_bind (L0.at (wpAny_bind (L3.at ?_)))))
    show wpAny _ _ (holding [Value.builtin "object.__class__"] (call (.builtin "getset_descriptor.__get__") [.builtin "object.__class__", .ref x, .ref D]) >>= ret) _ _ _
    refine wpAny_bind (wpAny_holding (wpAny_call (class_get (s := ⟨hp, g, d, t + 1, os⟩) (ox := ox) (od := od) X I C.hm (wpAny_pure ?_))))
    show wpAny _ _ (handedOut (.ref D)) _ _ _
    rw [handedOut_of (v := .ref D) rfl]
    first
      | exact wpAny_pure (wpAny_pure h)
      | exact wpAny_pure h
      | exact wpAny_pure (wpAny_bind (wpAny_pure (wpAny_pure h)))
end
end PySem.W
namespace M
open PySem PySem.Spec PyProof.Rows L2
/-- isinstance(e, c), e the caught exception; its class and its fields are wished for -/
def rIsX (K : PySem.W.Frag) (a : Addr) (cls : Value) (d : Option Addr) : List V → Hp → VK → Prop := fun xs H Q => ∃ (D dd : Addr) (fs : List (Str × V)) (c : V) (cv : Value) (b : Bool), xs = [.ref a, c] ∧ (∀ u, RelV c u → u = cv) ∧ cls = .ref D ∧ d = some dd ∧ H dd = some (.xd fs) ∧ ExcC K D ∧ PySem.W.kitOne K (.ref D) cv = some b ∧ Q (.bl b) H
theorem call_isX {X : Cx} {a : Addr} {oe : Obj} {cls : Value} {d : Option Addr} {pn : List (Addr × Obj)} (hz : Zc cls d oe) (hf : ∃ vs, oe.data = .fields vs) : CallR (X.suite a ((a, oe) :: pn)) (.builtin "isinstance") (rIsX X.K a cls d) := by
  intro pins s σ H xs us Q I r h
  obtain ⟨D, dd, fs, c, cv, b, rfl, hcv, rfl, rfl, hdd, C, e, q⟩ := h
  cases r with
  | cons rx rr =>
    cases rr with
    | cons rt rr =>
      cases rr
      cases rx
      have ec := hcv _ rt
      subst ec
      obtain ⟨hget, _⟩ := I.pin (a, oe) (List.mem_append.mpr (.inl List.mem_cons_self))
      obtain ⟨vs, hv⟩ := hf
      have hx : ObjOk X.prog X.w H s.heap dd (.xd fs) := I.hok dd _ hdd
      obtain ⟨mA, hns, hr⟩ := hx
      obtain ⟨od, ho, hl⟩ := lookIn_ns hns
      have J : PySem.W.InstAt s.heap a oe D (some od) := ⟨hget, hz.1, by unfold PySem.W.notCls; rw [hv] <;> rfl, by rw [hz.2]; exact ho⟩
      exact PySem.W.kia_one (PySem.W.kit_excM C) I.kIn J e (fun z => nomatch z) fun tk => ⟨.bl b, H, I.kept (t' := tk) fun _ _ z => z, rfl, q⟩
/-- what a slot holds that names the caught exception -/
structure ExV where
  a : Addr
  d : Addr
  e : Exn
instance repExV : Rep ExV where
  rp K I v x := v = .ref x.a ∧ I x.d = some (.xd x.e.fs)
  mono := fun e ⟨e1, h⟩ => ⟨e1, e _ _ h⟩
def Res.catch {α : Type} (m : Res α) (f : Exn → Res α) : Res α := match m with | .exc e => f e | .ok a => .ok a | .bad => .bad
@[simp] theorem Res.catch_ok {α : Type} (a : α) (f : Exn → Res α) : (Res.ok a).catch f = .ok a := rfl
@[simp] theorem Res.catch_exc {α : Type} (e : Exn) (f : Exn → Res α) : (Res.exc e).catch f = f e := rfl
theorem wp_catch {α : Type} {m : Res α} {f : Exn → Res α} {P : α → Prop} {X : Exn → Prop} (h : wp (m.catch f) P X) : wp m P (fun e => wp (f e) P X) := by cases m <;> exact h
/-- a test of the class -/
def IsOk (K : PySem.W.Frag) (cls cv : Value) (m : Res Bool) : Prop := m = .bad ∨ ∃ D b, cls = .ref D ∧ ExcC K D ∧ PySem.W.kitOne K (.ref D) cv = some b ∧ m = .ok b
/-- a field: of the class c -/
def fldI (c f : Str) (e : Exn) : Res Int := if e.cls = c then (match e.fs.lookup f with | some (.int i) => .ok i | _ => .bad) else .bad
def fldT (c f : Str) (e : Exn) : Res Tx := if e.cls = c then (match e.fs.lookup f with | some (.str s) => if s.cps.toList.length ≤ line then .ok s.cps.toList else .bad | _ => .bad) else .bad
section
variable {K : PySem.W.Frag} {mg : Str → Option Value} {I I1 H I' H' : Hp} {σ σ' ρ : List (Option V)} {Γ Γ' Γ1 Θ : List Cell} {i j n : Nat} {v : V} {Q : VK} {a d : Addr} {e : Exn} {cls cv : Value} {c : V}
theorem hf_isX {m : Res Bool} (hΓ : Γ[i]? = some (.im (⟨a, d, e⟩ : ExV))) (hc : ∀ u, RelV c u → u = cv) (h : IsOk K cls cv m) : HF K (tCB (rIsX K a cls (some d)) (tCons (tVar i) (tCons (tC c) tNil))) Γ m := .mk fun X Q E q => by
  obtain ⟨v, ho, e1, hd⟩ := E.get hΓ
  subst e1
  rcases h with rfl | ⟨D, b, e2, C, k, rfl⟩
  · exact q.elim
  · exact ⟨_, ho, D, d, _, c, cv, b, rfl, hc, e2, rfl, E.same _ _ hd, C, k, q trivial⟩
theorem hf_fldI {C : Addr} {x f : Str} (hΓ : Γ[i]? = some (.im (⟨a, d, e⟩ : ExV))) (hm : mg e.cls = some cls) (hC : mg x = some (.ref C)) : HF K (tXf a cls (some d) C f (tVar i)) Γ (fldI x f e) := .mk fun X Q E q => by
  obtain ⟨v, ho, e1, hd⟩ := E.get hΓ
  subst e1
  unfold fldI at q
  split at q
  · rename_i hx
    rw [hx, hC] at hm
    have hcl : cls = .ref C := (Option.some.inj hm).symm
    cases e3 : e.fs.lookup f with
    | none => rw [e3] at q; exact q.elim
    | some y =>
      rw [e3] at q
      cases y with
      | int i => exact ⟨_, ho, rfl, hcl, d, e.fs, _, rfl, E.same _ _ hd, e3, q trivial⟩
      | _ => exact q.elim
  · exact q.elim
theorem hf_fldT {C : Addr} {x f : Str} (hΓ : Γ[i]? = some (.im (⟨a, d, e⟩ : ExV))) (hm : mg e.cls = some cls) (hC : mg x = some (.ref C)) : HF K (tXf a cls (some d) C f (tVar i)) Γ (fldT x f e) := .mk fun X Q E q => by
  obtain ⟨v, ho, e1, hd⟩ := E.get hΓ
  subst e1
  unfold fldT at q
  split at q
  · rename_i hx
    rw [hx, hC] at hm
    have hcl : cls = .ref C := (Option.some.inj hm).symm
    cases e3 : e.fs.lookup f with
    | none => rw [e3] at q; exact q.elim
    | some y =>
      rw [e3] at q
      cases y with
      | str s =>
        dsimp only at q
        split at q
        · rename_i hl
          exact ⟨_, ho, rfl, hcl, d, e.fs, _, rfl, E.same _ _ hd, e3, q hl⟩
        · exact q.elim
      | _ => exact q.elim
  · exact q.elim
/-- into the suite: e is bound -/
theorem Env.caught (E : Env K I H σ Γ (some (.ref d) :: ρ) (.im (XD.mk e.fs) :: Θ)) (hi : i < Γ.length) : Env K I H (σ.set i (some (.ref a))) (Γ.set i (.im (⟨a, d, e⟩ : ExV))) ρ Θ := by
  obtain ⟨d', ed, hd⟩ := E.topR
  cases ed
  have E2 : Env K I H σ Γ (some (.ref a) :: ρ) (.im (⟨a, d, e⟩ : ExV) :: Θ) := (Env.pop E).push ⟨rfl, hd⟩
  exact E2.store hi rfl
/-- what the clause 'except c as e' wishes, from a walk through its suite -/
theorem caught_as {c : Value} {ts : Addr → Value → Option Addr → TS} {Wout : WX} {D : Ends} (hx : ∀ cls, mg e.cls = some cls → PySem.W.exmOne K cls c = some true) (hi : i < Γ.length)
    (h : ∀ I H σ' a d cls, mg e.cls = some cls → Env K I H σ' (Γ.set i (.im (⟨a, d, e⟩ : ExV))) ρ Θ → ts a cls (some d) { nx := fun σ' H' => D.nx (σ'.set i none) H', rt := D.rt, bk := fun σ' H' => D.bk (σ'.set i none) H', ct := fun σ' H' => D.ct (σ'.set i none) H' } σ' H) :
    XWish K mg (wAs K c i ts Wout D) σ Γ ρ Θ e := fun I' H' cls d hm E => ⟨true, hx cls hm, fun _ a _ => h I' H' _ a d cls hm (E.caught hi), fun z => nomatch z⟩
theorem exm_all {c : Value} (h : ∃ cls, mg e.cls = some cls ∧ PySem.W.exmOne K cls c = some true) : ∀ cls, mg e.cls = some cls → PySem.W.exmOne K cls c = some true := fun cls hm => by
  obtain ⟨c2, h1, h2⟩ := h
  rw [h1] at hm
  rw [← Option.some.inj hm]
  exact h2
/-- a call while an exception is handled -/
theorem hot_suite {X : Cx} {a : Addr} {oe : Obj} {cls : Value} {d : Option Addr} {pn : List (Addr × Obj)} (hz : L2N.Zn cls d oe) (hf : ∃ vs, oe.data = .fields vs) : L2H.HotC (X.suite a ((a, oe) :: pn)) := by
  obtain ⟨vs, hv⟩ := hf
  exact ⟨(a, oe), ⟨rfl, vs, hv, hz.2.2 vs hv⟩, List.mem_cons_self⟩
end
end M
namespace M
open PySem PySem.Spec PyProof.Rows L2
/-! ### try: body, except c as e: suite -/
def tTryG (tb : WX → TS) (K : PySem.W.Frag) (c : Value) (i : Nat) (ts : Addr → Value → Option Addr → TS) : TS := fun D σ H => tb (wAs K c i ts (fun _ _ _ _ => False) D) D σ H
theorem ps_tryG {X : Cx} {x n : Str} {c : Value} {i : Nat} {body suite : List Stmt} {b₀ : Stmt} {np pos pos' : Pos} {tb : WX → TS} {ts : Addr → Value → Option Addr → TS}
    (hs : X.stack = X.env :: X.outer) (hf : X.env.frame = some X.env.locals) (hN : X.N.Nodup) (hi : X.N[i]? = some n) (hln : X.env.kindOf n = some .local) (hc : Names X x c)
    (hb : ∀ (W : WX) (pn : List (Addr × Obj)) (xe : Value → Shared → Prop), L2N.Takes (X.tr pn xe) W → PassesOwn (model X.prog X.w) X.A X.env xe → PSs (X.tr pn xe) body (tb W))
    (hsu : ∀ (a : Addr) (oe : Obj) (cls : Value) (d : Option Addr) (pn : List (Addr × Obj)), L2N.Zn cls d oe → (∃ vs, oe.data = .fields vs) → PSs (X.suite a ((a, oe) :: pn)) (b₀ :: suite) (ts a cls d)) :
    PS X (.Try body [.ExceptHandler (some (.Name x np)) (some n) (b₀ :: suite) pos'] [] [] pos) (tTryG tb X.K c i ts) := L2N.ps_try_as hs hf hN hi hln hc takesN0 hb hsu
theorem roomH_mk {k : Nat} {A : Around} (r : Room k A) (h : Option Value) : L2H.RoomH k (A.mark h) := ⟨r.dp, r.un⟩
section
variable {K : PySem.W.Frag} {mg : Str → Option Value} {I I1 H I' H' : Hp} {σ σ' ρ : List (Option V)} {Γ Γ' Γ1 Θ : List Cell} {i j n : Nat} {v : V} {Q : VK} {a d : Addr} {c : Value} {dn db dc : L2.St → Hp → Prop} {dr : VK}
variable {ω : Type} {P : ω → Prop} {X : Exn → Prop}
def TryP {ρτ S : Type} (K : PySem.W.Frag) (G : S → List Cell) (ρ : List (Option V)) (Θ : List Cell) (N : L2.St → Hp → Prop) (R : ρτ → Prop) : Lp ρτ S → Prop
  | .fin s => ∀ I' H' σ', Env K I' H' σ' (G s) ρ Θ → N σ' H'
  | .ret r => R r
theorem st_try {ρτ S : Type} {tb : WX → TS} {ts : Addr → Value → Option Addr → TS} {m : Res (Lp ρτ S)} {f : Exn → Res (Lp ρτ S)} {k : Lp ρτ S → Res ω} (ΓT : List Cell) (R : ρτ → Prop) (G : S → List Cell) (E : Env K I H σ Γ ρ Θ) (hi : i < ΓT.length) (h : wp ((m.catch f).bind k) P X)
    (ret : ∀ r, wp (k (.ret r)) P X → R r) (rest : ∀ s I' H' σ', Env K I' H' σ' (G s) ρ Θ → wp (k (.fin s)) P X → dn σ' H')
    (exm : ∀ e, wp (f e) (TryP K G ρ Θ dn R) X → ∀ cls, mg e.cls = some cls → PySem.W.exmOne K cls c = some true)
    (suite : ∀ e, wp (f e) (TryP K G ρ Θ dn R) X → ∀ I H σ' a d cls, mg e.cls = some cls → Env K I H σ' (ΓT.set i (.im (⟨a, d, e⟩ : ExV))) ρ Θ →
      ts a cls (some d) ⟨fun σ' H' => dn (σ'.set i none) H', dr, fun σ' H' => db (σ'.set i none) H', fun σ' H' => dc (σ'.set i none) H'⟩ σ' H)
    (body : (∀ e, wp (f e) (TryP K G ρ Θ dn R) X → ∀ σ, XWish K mg (wAs K c i ts (fun _ _ _ _ => False) ⟨dn, dr, db, dc⟩) σ ΓT ρ Θ e) → wp m (TryP K G ρ Θ dn R) (fun e => wp (f e) (TryP K G ρ Θ dn R) X) → tb (wAs K c i ts (fun _ _ _ _ => False) ⟨dn, dr, db, dc⟩) ⟨dn, dr, db, dc⟩ σ H) :
    tTryG tb K c i ts ⟨dn, dr, db, dc⟩ σ H := by
  have h2 : wp (m.catch f) (TryP K G ρ Θ dn R) X := wp_mono (wp_bind.mp h) (fun y q => by
    cases y with
    | fin s => exact fun I' H' σ' E' => rest s I' H' σ' E' q
    | ret r => exact ret r q) fun _ z => z
  exact body (fun e x σ => caught_as (exm e x) hi (suite e x)) (wp_catch h2)
/-- the suite's end: e is gone -/
theorem Env.gone (E : Env K I H σ Γ ρ Θ) (hi : i < Γ.length) (h : Γ.set i .any = Γ') : Env K I H (σ.set i none) Γ' ρ Θ := by
  subst h
  exact Env.anyOf (E.weak wkAny) hi
theorem wp_kn {b : Bool} {m : Res ω} (h : wp (if b = true then m else .bad) P X) : wp m P X := by
  cases b with
  | true => exact h
  | false => exact h.elim
theorem wp_knT {b : Bool} {m : Res ω} (h : wp (if b = true then m else .bad) P X) : b = true := by
  cases b with
  | true => rfl
  | false => exact h.elim
end
end M
namespace M
open PySem PySem.Spec PyProof.Rows L2
/-! ### the end -/
def clsBody (s : Stmt) : List Stmt := match s with
  | .ClassDef _ _ _ b _ _ _ _ _ _ _ => b
  | _ => []
def spLaw (m : Scr → Res Bool) (K : PySem.W.Frag) : Sp := fun vs H Q _ => ∃ a ns, vs = [.ref a] ∧ SqL K H a (ns.map V.int) ∧ m ⟨ns⟩ = .ok true ∧ ∀ H', Q (.bl true) H'
theorem spLaw_sp {m : Scr → Res Bool} {K : PySem.W.Frag} {mg : Str → Option Value} {vs : List V} {H : Hp} {Q : VK} {E : XK} (h : spLaw m K vs H Q E) : SpM K mg 1 (fun (a : Scr) => [.im a]) (fun a => m a) (fun b => .im b) vs H Q E := by
  obtain ⟨a, ns, rfl, hq, e, q⟩ := h
  refine ⟨rfl, ⟨ns⟩, H, [], [], ⟨rfl, rfl, Same.refl _, [[]], ⟨⟨rfl, _, rfl, a, rfl, hq⟩, trivial⟩, by simp, by simp⟩, ?_⟩
  show wp (m ⟨ns⟩) _ _
  rw [e]
  intro I' H' v E'
  obtain ⟨ev, _⟩ := E'.topS
  rw [ev]
  exact q H'
theorem spLaw_of {m : Scr → Res Bool} {n : Nat} (hm : ∀ ns : List Int, ns.length ≤ n → m ⟨ns⟩ = .ok true) (K : PySem.W.Frag) (H : Hp) (a : Addr) (ns : List Int) (hl : ns.length ≤ n) (hq : SqL K H a (ns.map V.int)) :
    spLaw m K [.ref a] H (fun v _ => v = .bl true) fun _ _ _ => False := ⟨a, ns, rfl, hq, hm ns hl, fun _ => rfl⟩
theorem no_CX {P : Program} {w : World} {H : Hp} {s : Shared} {e : Value} {s' : Shared} (h : L2N.CX P w [] H s (fun _ _ _ => False) e s') : False := by
  obtain ⟨_, _, _, _, _, _, _, _, _, _, _, _, z⟩ := h
  exact z
theorem kit_ref {K : PySem.W.Frag} {C T : Addr} {b : Bool} (hd : PySem.W.hasDictIn K T = true) (ht : PySem.W.typeIn K (.ref T) = some (.type "type")) (hs : PySem.W.subIn K (.ref C) (.ref T) = some b) (hc : PySem.W.subIn K (.ref C) (.ref C) = some true) :
    PySem.W.kitOne K (.ref C) (.ref T) = some b := by
  unfold PySem.W.kitOne
  by_cases e : C = T
  · subst e
    rw [hc] at hs
    rw [if_pos (beq_self_eq_true _), hs]
  · have ne : (Value.ref C == Value.ref T) = false := beq_eq_false_iff_ne.mpr fun z => e (Value.ref.inj z)
    rw [ne, if_neg Bool.false_ne_true]
    obtain ⟨cd, hcd, _⟩ := PySem.W.any_some hd
    show (if ((PySem.W.clsIn K T).isSome && PySem.W.typeIn K (.ref T) == some (.type "type")) = true then PySem.W.subIn K (.ref C) (.ref T) else none) = some b
    have e2 : ((PySem.W.clsIn K T).isSome && PySem.W.typeIn K (.ref T) == some (.type "type")) = true := by rw [hcd, ht] <;> rfl
    rw [if_pos e2]
    exact hs
theorem kit_typ {K : PySem.W.Frag} {C : Addr} {T : String} {b : Bool} (hk : PySem.W.kitMeta T = true) (hs : PySem.W.subIn K (.ref C) (.type T) = some b) : PySem.W.kitOne K (.ref C) (.type T) = some b := by
  unfold PySem.W.kitOne
  have ne : (Value.ref C == Value.type T) = false := beq_eq_false_iff_ne.mpr fun z => nomatch z
  rw [ne, if_neg Bool.false_ne_true]
  show (if PySem.W.kitMeta T = true then PySem.W.subIn K (.ref C) (.type T) else none) = some b
  rw [if_pos hk]
  exact hs
end M
/-! plain facts about the mirrors' words -/
namespace M
open PySem L2
theorem rngR_ok {lo hi : Int} (h : RgOk lo hi) : rngR lo hi = .ok (rng lo hi) := by unfold rngR; rw [clo_eq]; exact if_pos h
theorem rgOk {lo hi : Int} (h1 : -1000000 ≤ lo) (h2 : lo ≤ 1000000) (h3 : -1000000 ≤ hi) (h4 : hi ≤ 1000000) : RgOk lo hi := by unfold RgOk; omega
theorem mem_rng {lo hi x : Int} : x ∈ rng lo hi ↔ lo ≤ x ∧ x < hi := by
  unfold rng
  rw [List.mem_map]
  constructor
  · rintro ⟨i, hi, rfl⟩
    have := List.mem_range.mp hi
    omega
  · rintro ⟨h1, h2⟩
    exact ⟨(x - lo).toNat, List.mem_range.mpr (by omega), by omega⟩
theorem rng_len {lo hi : Int} : (rng lo hi).length = (hi - lo).toNat := by unfold rng; simp
theorem modI_ok {x y : Int} (h : 0 < y) : modI x y = .ok (x % y) := by unfold modI; exact if_pos h
theorem log2_le {n k : Nat} (h : n < 2 ^ k) : n.log2 ≤ k := by
  by_cases e : n = 0
  · subst e; simp
  · exact Nat.le_of_lt ((Nat.log2_lt e).mpr h)
theorem divI_ok {x y : Int} (h : 0 < y) (h2 : y < 2 ^ 1000) : divI x y = .ok (x / y) := by
  unfold divI
  rw [clo_eq]
  refine if_pos ⟨h, ?_⟩
  have : y.natAbs < 2 ^ 1000 := by omega
  exact Nat.lt_of_le_of_lt (log2_le this) (by decide)
theorem mulI_ok {x y : Int} (h : x.natAbs < 2 ^ 1000) (h2 : y.natAbs < 2 ^ 1000) : mulI x y = .ok (x * y) := by
  unfold mulI
  rw [clo_eq]
  refine if_pos ?_
  have a := log2_le h
  have b := log2_le h2
  omega
theorem xCat_ok {a b : Tx} (h : a.length + b.length ≤ 100000) : xCat a b = .ok (a ++ b) := by
  unfold xCat
  rw [clo_eq]
  exact if_pos (Nat.le_trans h (by decide))
theorem ixN_nat {n k : Nat} (h : k < n) : ixN n (k : Int) = some k := by
  unfold ixN
  rw [if_pos (by omega), if_pos (by omega), Int.toNat_natCast]
theorem atI_nat {α : Type} {xs : List α} {k : Nat} (h : k < xs.length) : atI xs (k : Int) = some xs[k] := by
  unfold atI
  rw [ixN_nat h]
  exact List.getElem?_eq_getElem h
theorem lGet_nat {α : Type} {xs : List α} {k : Nat} (h : k < xs.length) : lGet xs (k : Int) = .ok xs[k] := by
  unfold lGet
  rw [atI_nat h]
theorem lGet_int {α : Type} {xs : List α} {i : Int} (h0 : 0 ≤ i) (h : i.toNat < xs.length) : lGet xs i = .ok xs[i.toNat] := by
  have e : ((i.toNat : Nat) : Int) = i := by omega
  have q := lGet_nat h
  rw [e] at q
  exact q
theorem xGet_nat {w : Tx} {k : Nat} (h : k < w.length) : xGet w (k : Int) = .ok [w[k]] := by
  unfold xGet
  rw [atI_nat h]
theorem xGet_int {w : Tx} {i : Int} (h0 : 0 ≤ i) (h : i.toNat < w.length) : xGet w i = .ok [w[i.toNat]] := by
  have e : ((i.toNat : Nat) : Int) = i := by omega
  have q := xGet_nat h
  rw [e] at q
  exact q
theorem lSet_nat {α : Type} {xs : List α} {k : Nat} {y : α} (h : k < xs.length) : lSet xs (k : Int) y = .ok (xs.set k y) := by
  unfold lSet
  rw [ixN_nat h]
theorem lApp_ok {α : Type} {xs : List α} {x : α} (h : xs.length < 100000) : lApp xs x = .ok (xs ++ [x]) := by
  unfold lApp
  rw [clo_eq]
  exact if_pos (Nat.lt_of_lt_of_le h (by decide))
theorem xRep_ok {w : Tx} {n : Int} (h0 : 0 ≤ n) (h1 : n ≤ 100000) (h2 : w.length * n.toNat ≤ 100000) : xRep w n = .ok (List.replicate n.toNat w).flatten := by
  unfold xRep
  rw [clo_eq]
  refine if_pos ⟨by omega, by omega, Nat.le_trans h2 (by decide)⟩
theorem lPopAt0 {α : Type} {x : α} {xs : List α} : lPopAt (x :: xs) (0 : Int) = .ok (x, xs) := by
  unfold lPopAt
  rw [clo_eq]
  rw [if_pos (by decide)]
  have e : seqIndex? (0 : Int) (x :: xs).length = some 0 := by
    unfold seqIndex?
    simp
  rw [e]
  rfl
/-! slices -/
theorem cut_from {α : Type} (xs : List α) (k : Nat) : cutL xs (some (k : Int)) none = xs.drop k := by
  unfold cutL
  rw [HT.sIx_nat]
  show (xs.drop (min k xs.length)).take (xs.length - min k xs.length) = _
  rw [List.take_of_length_le (by rw [List.length_drop]; omega)]
  by_cases h : k ≤ xs.length
  · rw [Nat.min_eq_left h]
  · rw [Nat.min_eq_right (by omega), List.drop_of_length_le (Nat.le_refl _), List.drop_of_length_le (by omega)]
theorem cut_to {α : Type} (xs : List α) (k : Nat) : cutL xs none (some (k : Int)) = xs.take k := by
  unfold cutL
  rw [HT.sIx_nat]
  show (xs.drop 0).take (min k xs.length - 0) = _
  rw [List.drop_zero, Nat.sub_zero]
  by_cases h : k ≤ xs.length
  · rw [Nat.min_eq_left h]
  · rw [Nat.min_eq_right (by omega), List.take_of_length_le (Nat.le_refl _), List.take_of_length_le (by omega)]
theorem cut_mid {α : Type} (xs : List α) (i j : Nat) : cutL xs (some (i : Int)) (some (j : Int)) = (xs.drop i).take (j - i) := by
  unfold cutL
  rw [HT.sIx_nat, HT.sIx_nat]
  by_cases h : i ≤ xs.length
  · rw [Nat.min_eq_left h]
    by_cases h2 : j ≤ xs.length
    · rw [Nat.min_eq_left h2]
    · rw [Nat.min_eq_right (by omega), List.take_of_length_le (by rw [List.length_drop]; omega), List.take_of_length_le (by rw [List.length_drop]; omega)]
  · rw [Nat.min_eq_right (by omega : xs.length ≤ i), List.drop_of_length_le (Nat.le_refl _), List.drop_of_length_le (by omega : xs.length ≤ i)]
    simp
theorem cut_last {α : Type} (xs : List α) (k : Nat) (h : 0 < k) : cutL xs (some (-(k : Int))) none = xs.drop (xs.length - k) := by
  unfold cutL
  have e : HT.sIx xs.length 0 (some (-(k : Int))) = xs.length - k := by
    show (if -(k : Int) < 0 then (-(k : Int) + (xs.length : Int)).toNat else _) = _
    rw [if_pos (by omega)]
    omega
  rw [e]
  show (xs.drop (xs.length - k)).take (xs.length - (xs.length - k)) = _
  rw [List.take_of_length_le (by rw [List.length_drop]; omega)]
/-! loops -/
/-- a search: the first x with P x -/
theorem forR_find {α ρ : Type} {f : α → Unit → Res (Fl ρ Unit)} {P : α → Bool} {g : α → ρ} : ∀ {xs : List α}, (∀ x ∈ xs, f x () = .ok (if P x = true then .rt (g x) else .nx ())) →
    forR f xs () = .ok (match xs.find? P with | some x => .ret (g x) | none => .fin ())
  | [], _ => forR_nil
  | x :: xs, h => by
    rw [forR_cons, h x List.mem_cons_self, Res.bind_ok]
    cases hp : P x with
    | true => rw [List.find?_cons_of_pos hp]; rfl
    | false =>
      rw [List.find?_cons_of_neg (by rw [hp]; decide)]
      exact forR_find fun y hy => h y (List.mem_cons_of_mem _ hy)
/-- nothing is found -/
theorem forR_all {α ρ S : Type} {f : α → S → Res (Fl ρ S)} {s : S} : ∀ {xs : List α}, (∀ x ∈ xs, f x s = .ok (.nx s)) → forR f xs s = .ok (.fin s)
  | [], _ => forR_nil
  | x :: xs, h => by
    rw [forR_cons, h x List.mem_cons_self, Res.bind_ok]
    exact forR_all fun y hy => h y (List.mem_cons_of_mem _ hy)
/-- each turn goes on -/
theorem forR_fold {α ρ S : Type} {f : α → S → Res (Fl ρ S)} {g : S → α → S} : ∀ {xs : List α} {s : S} (Iv : S → Prop), Iv s → (∀ x ∈ xs, ∀ s, Iv s → f x s = .ok (.nx (g s x)) ∧ Iv (g s x)) → forR f xs s = .ok (.fin (xs.foldl g s)) ∧ Iv (xs.foldl g s)
  | [], _, _, h0, _ => ⟨forR_nil, h0⟩
  | x :: xs, s, Iv, h0, h => by
    obtain ⟨e, h1⟩ := h x List.mem_cons_self s h0
    rw [forR_cons, e, Res.bind_ok]
    exact forR_fold Iv h1 fun y hy => h y (List.mem_cons_of_mem _ hy)
theorem forS_inv {α S : Type} {f : α → S → Res S} (Iv : Nat → S → Prop) : ∀ {xs : List α} {s : S} {k : Nat}, Iv k s → (∀ j s x, x ∈ xs → j < k + xs.length → Iv j s → ∃ s', f x s = .ok s' ∧ Iv (j + 1) s') → ∃ s', forS f xs s = .ok s' ∧ Iv (k + xs.length) s'
  | [], s, k, h0, _ => ⟨s, forS_nil, h0⟩
  | x :: xs, s, k, h0, h => by
    obtain ⟨s1, e, h1⟩ := h k s x List.mem_cons_self (by simp) h0
    obtain ⟨s2, e2, h2⟩ := forS_inv Iv (xs := xs) h1 fun k s y hy hk => h k s y (List.mem_cons_of_mem _ hy) (by rw [List.length_cons]; omega)
    refine ⟨s2, ?_, ?_⟩
    · rw [forS_cons, e, Res.bind_ok, e2]
    · rw [List.length_cons]
      have e3 : k + (xs.length + 1) = k + 1 + xs.length := by omega
      rw [e3]
      exact h2
theorem forS_use {α S γ : Type} {f : α → S → Res S} {K : S → Res γ} {xs : List α} {s : S} (motive : Res γ → Prop) (Iv : Nat → S → Prop) (h0 : Iv 0 s) (step : ∀ k s x, x ∈ xs → k < xs.length → Iv k s → ∃ s', f x s = .ok s' ∧ Iv (k + 1) s')
    (h : ∀ s', Iv xs.length s' → motive (K s')) : motive ((forS f xs s).bind K) := by
  obtain ⟨s', e, i⟩ := forS_inv Iv h0 (by rw [Nat.zero_add]; exact step)
  rw [e, Res.bind_ok]
  rw [Nat.zero_add] at i
  exact h s' i
theorem mapR_ok {α β : Type} {f : α → Res β} {g : α → β} : ∀ {xs : List α}, (∀ x ∈ xs, f x = .ok (g x)) → mapR f xs = .ok (xs.map g)
  | [], _ => mapR_nil
  | x :: xs, h => by
    rw [mapR_cons, h x List.mem_cons_self, Res.bind_ok, mapR_ok fun y hy => h y (List.mem_cons_of_mem _ hy), Res.bind_ok]
    rfl
theorem filR_ok {α β : Type} {t : α → Res Bool} {f : α → Res β} {p : α → Bool} {g : α → β} : ∀ {xs : List α}, (∀ x ∈ xs, t x = .ok (p x)) → (∀ x ∈ xs, f x = .ok (g x)) → filR t f xs = .ok ((xs.filter p).map g)
  | [], _, _ => filR_nil
  | x :: xs, h, h2 => by
    rw [filR_cons, h x List.mem_cons_self, Res.bind_ok]
    have ih := filR_ok (xs := xs) (fun y hy => h y (List.mem_cons_of_mem _ hy)) fun y hy => h2 y (List.mem_cons_of_mem _ hy)
    cases hp : p x with
    | true =>
      rw [if_pos rfl, h2 x List.mem_cons_self, Res.bind_ok, ih, Res.bind_ok, List.filter_cons_of_pos hp]
      rfl
    | false =>
      rw [if_neg (by decide), ih, List.filter_cons_of_neg (by rw [hp]; decide)]
theorem lcM_ok {α β : Type} {f : α → Res β} {g : α → β} {xs : List α} (hl : xs.length ≤ 100000) (h : ∀ x ∈ xs, f x = .ok (g x)) : lcM f xs = .ok (xs.map g) := by
  unfold lcM
  rw [clo_eq]
  rw [if_pos (Nat.le_trans hl (by decide)), mapR_ok h]
theorem lcR_ok {α β : Type} {t : α → Res Bool} {f : α → Res β} {p : α → Bool} {g : α → β} {xs : List α} (hl : xs.length ≤ 100000) (h : ∀ x ∈ xs, t x = .ok (p x)) (h2 : ∀ x ∈ xs, f x = .ok (g x)) : lcR t f xs = .ok ((xs.filter p).map g) := by
  unfold lcR
  rw [clo_eq]
  rw [if_pos (Nat.le_trans hl (by decide)), filR_ok h h2]
end M
namespace G
open PySem M
def is_BadWord (e : Exn) : Res Bool := if e.cls = "BadWord" then .ok true else if e.cls = "OutOfBounds" then .ok false else if e.cls = "TooMany" then .ok false else .bad
def is_OutOfBounds (e : Exn) : Res Bool := if e.cls = "BadWord" then .ok false else if e.cls = "OutOfBounds" then .ok true else if e.cls = "TooMany" then .ok false else .bad
def is_TooMany (e : Exn) : Res Bool := if e.cls = "BadWord" then .ok false else if e.cls = "OutOfBounds" then .ok false else if e.cls = "TooMany" then .ok true else .bad
def kn_WordError (e : Exn) : Bool := decide (e.cls = "BadWord") || decide (e.cls = "OutOfBounds") || decide (e.cls = "TooMany")
noncomputable def m_law_source (script : Scr) : Res Src :=
  Res.bind (lcM (fun (cell : Int) => Res.bind (modI (if cell < 0 then -cell else cell) (1000000000000000000000000000000000000000000000000000000000000000000000000000000000000000000000000000000000000000000000000000000000000000000000000000000000000000000000000000000000000000000000000000000000000000000000000000000000000000000000000000000000000000000000000000000000000000000000000000000000000000000000000000000000000000000000000000000000000000000000000 : Int)) fun (t1 : Int) => .ok t1) (cutL script.l none (some (63 : Int)))) fun (ys2 : List Int) => Res.bind (.ok ((279 : Int) + ((ys2.length : Nat) : Int))) fun (seed : Int) => Res.bind (forS (fun (cell : Int) (s : Int) => match s with | seed => Res.bind (Res.bind (Res.bind (Res.bind (Res.bind (mulI seed (1009 : Int)) fun (t3 : Int) => Res.bind (modI cell (1000003 : Int)) fun (t4 : Int) => (.ok (t3 + t4))) fun (t5 : Int) => (.ok (t5 + (1 : Int)))) fun (t6 : Int) => .ok t6) fun (t7 : Int) => (modI t7 (2147483647 : Int))) fun (seed : Int) => .ok seed) ys2 seed) fun (s : Int) => match s with | seed => Res.bind (lcR (fun (cell : Int) => .ok (decide (cell ≥ (1000000000000000000 : Int)))) (fun (cell : Int) => .ok cell) ys2) fun (ys9 : List Int) => .ok (⟨ys9, seed, (0 : Int)⟩ : Src)

noncomputable def m_law_draw (source : Src) (size : Int) : Res (Int × Src) :=
  (if (!(List.isEmpty source.cells)) = true then Res.bind (Res.bind (Res.bind (lGet source.cells (0 : Int)) fun (t2 : Int) => .ok t2) fun (t3 : Int) => (modI t3 size)) fun (digit : Int) => Res.bind (Res.bind (lGet source.cells (0 : Int)) fun (t4 : Int) => (divI t4 size)) fun (t5 : Int) => Res.bind (lSet source.cells (0 : Int) t5) fun (great : (List Int)) => Res.bind (Res.bind (lGet great (0 : Int)) fun (t6 : Int) => (.ok (decide (t6 = (0 : Int))))) fun b9 => Res.bind (if b9 = true then Res.bind (lPopAt great (0 : Int)) fun (y8 : Int × (List Int)) => .ok y8.2 else .ok great) fun (s : (List Int)) => match s with | great => .ok (digit, (⟨great, source.seed, source.n⟩ : Src)) else Res.bind (Res.bind (Res.bind (Res.bind (Res.bind (mulI source.seed (48271 : Int)) fun (t10 : Int) => Res.bind (mulI (source.n + (1 : Int)) (69621 : Int)) fun (t11 : Int) => (.ok (t10 + t11))) fun (t12 : Int) => (.ok (t12 + (11 : Int)))) fun (t13 : Int) => .ok t13) fun (t14 : Int) => (modI t14 (2147483647 : Int))) fun (first : Int) => Res.bind (Res.bind (Res.bind (Res.bind (mulI first first) fun (t15 : Int) => (.ok (t15 + (source.n + (1 : Int))))) fun (t16 : Int) => .ok t16) fun (t17 : Int) => (modI t17 (2147483399 : Int))) fun (second : Int) => Res.bind (Res.bind (Res.bind (Res.bind (mulI second second) fun (t18 : Int) => (.ok (t18 + source.seed))) fun (t19 : Int) => .ok t19) fun (t20 : Int) => (modI t20 (2147483249 : Int))) fun (third : Int) => Res.bind (Res.bind (Res.bind (divI third (11 : Int)) fun (t21 : Int) => .ok t21) fun (t22 : Int) => (modI t22 size)) fun (t23 : Int) => .ok (t23, (⟨source.cells, source.seed, (source.n + (1 : Int))⟩ : Src)))

noncomputable def m_law_word (source : Src) (low : Int) (high : Int) : Res (Tx × Src) :=
  Res.bind (.ok ([97, 98, 99, 100, 101, 102, 103, 104, 105, 106, 107, 108, 109, 110, 111, 112, 113, 114, 115, 116, 117, 118, 119, 120, 121, 122] : Tx)) fun (letters : Tx) => Res.bind (m_law_draw source ((high - low) + (1 : Int))) fun (t2 : Int × Src) => Res.bind (.ok (low + t2.1)) fun (t3 : Int) => Res.bind (m_law_draw t2.2 (6 : Int)) fun (t5 : Int × Src) => Res.bind (lGet [(2 : Int), (2 : Int), (3 : Int), (3 : Int), (4 : Int), (26 : Int)] t5.1) fun (t6 : Int) => Res.bind (m_law_draw t5.2 (26 : Int)) fun (t8 : Int × Src) => Res.bind (.ok ([] : Tx)) fun (word : Tx) => Res.bind (rngR 0 (60 : Int)) fun xs9 => Res.bind (forS (fun (turn : Int) (s : Src × Tx) => match s with | (source, word) => Res.bind (if (decide (((word.length : Nat) : Int) < t3)) = true then Res.bind (m_law_draw source (8 : Int)) fun (t11 : Int × Src) => Res.bind (if ((decide (t11.1 < (5 : Int))) || (decide (((word.length : Nat) : Int) < (2 : Int)))) = true then Res.bind (m_law_draw t11.2 t6) fun (t13 : Int × Src) => Res.bind (.ok (t8.1 + t13.1)) fun (t14 : Int) => Res.bind (Res.bind (Res.bind (modI t14 (26 : Int)) fun (t15 : Int) => (xGet letters t15)) fun (t16 : Tx) => (xCat word t16)) fun (word : Tx) => .ok (t13.2, word) else Res.bind (m_law_draw t11.2 (8 : Int)) fun (t18 : Int × Src) => Res.bind (.ok ((1 : Int) + t18.1)) fun (t19 : Int) => Res.bind (if (decide (t11.1 = (5 : Int))) = true then Res.bind (xCat word (cutL word (some (-t19)) none)) fun (word : Tx) => .ok word else Res.bind (if (decide (t11.1 = (6 : Int))) = true then Res.bind (xCat word (List.reverse (cutL word (some (-t19)) none))) fun (word : Tx) => .ok word else Res.bind (xCat word (cutL word none (some t19))) fun (word : Tx) => .ok word) fun (s : Tx) => match s with | word => .ok word) fun (s : Tx) => match s with | word => .ok (t18.2, word)) fun (s : Src × Tx) => match s with | (source, word) => .ok (source, word) else .ok (source, word)) fun (s : Src × Tx) => match s with | (source, word) => .ok (source, word)) xs9 (t8.2, word)) fun (s : Src × Tx) => match s with | (source, word) => .ok ((cutL word none (some t3)), source)

noncomputable def m_is_letters (text : Tx) (most : Int) : Res Bool :=
  (if (decide (((text.length : Nat) : Int) > most)) = true then .ok false else Res.bind (forR (fun (letter : Tx) (s : Unit) => (if ((xLt letter ([97] : Tx)) || (xGt letter ([122] : Tx))) = true then .ok (.rt false) else .ok (.nx ()))) (chars text) ()) fun (y : Lp Bool Unit) => match y with | .ret r => .ok r | .fin s => .ok true)

noncomputable def m_is_word (text : Tx) : Res Bool :=
  Res.bind (m_is_letters text (60 : Int)) fun (t1 : Bool) => .ok t1

noncomputable def m_check_word (word : Tx) : Res Unit :=
  Res.bind (m_is_word word) fun (t1 : Bool) => (if (!t1) = true then .exc ⟨"BadWord", [("word", enc word)]⟩ else .ok ())

noncomputable def m_check_range (value : Int) (low : Int) (high : Int) : Res Unit :=
  (if ((decide (value < low)) || (decide (value > high))) = true then .exc ⟨"OutOfBounds", [("value", enc value)]⟩ else .ok ())

noncomputable def m_shortest_local (word : Tx) (cut : Int) : Res Int :=
  Res.bind (rngR (1 : Int) ((word.length : Nat) : Int)) fun xs1 => Res.bind (forR (fun (period : Int) (s : Unit) => Res.bind (.ok (max (0 : Int) (cut - period))) fun (first : Int) => Res.bind (.ok (min cut (((word.length : Nat) : Int) - period))) fun (last : Int) => (if (decide ((cutL word (some first) (some last)) = (cutL word (some (first + period)) (some (last + period))))) = true then .ok (.rt period) else .ok (.nx ()))) xs1 ()) fun (y : Lp Int Unit) => match y with | .ret r => .ok r | .fin s => .ok ((word.length : Nat) : Int)

noncomputable def m_local_period (word : Tx) (cut : Int) : Res Int :=
  Res.bind (m_check_word word) fun (t1 : Unit) => Res.bind (m_check_range cut (1 : Int) (((word.length : Nat) : Int) - (1 : Int))) fun (t2 : Unit) => Res.bind (m_shortest_local word cut) fun (t3 : Int) => .ok t3

noncomputable def m_law_whole (thing : Int) : Res Bool :=
  .ok (true && (!false))

noncomputable def m_law_outside (word : Tx) (cut : Int) : Res Bool :=
  Res.bind (Res.catch (Res.bind (m_local_period word cut) fun (t2 : Int) => .ok (.fin ())) (fun (xe1 : Exn) => if kn_WordError xe1 = true then Res.bind (Res.bind (Res.bind (is_OutOfBounds xe1) fun b => .ok (!b)) fun b4 => if b4 = true then .ok true else (Res.bind (is_BadWord xe1) fun b3 => if b3 = true then .ok true else (is_TooMany xe1))) fun b5 => (if b5 = true then .ok (.ret false) else Res.bind (fldI "OutOfBounds" "value" xe1) fun (t6 : Int) => Res.bind (noX (m_law_whole t6)) fun (t7 : Bool) => (if t7 = true then Res.bind (Res.bind (fldI "OutOfBounds" "value" xe1) fun (t9 : Int) => (.ok (decide (t9 = cut)))) fun (t10 : Bool) => .ok (.ret t10) else .ok (.ret false))) else .bad)) fun (y : Lp Bool Unit) => match y with | .ret r => .ok r | .fin s => .ok false

noncomputable def m_shortest_period (word : Tx) : Res Int :=
  Res.bind (rngR (1 : Int) ((word.length : Nat) : Int)) fun xs1 => Res.bind (forR (fun (period : Int) (s : Unit) => (if (decide ((cutL word (some period) none) = (cutL word none (some (((word.length : Nat) : Int) - period))))) = true then .ok (.rt period) else .ok (.nx ()))) xs1 ()) fun (y : Lp Int Unit) => match y with | .ret r => .ok r | .fin s => .ok (max (1 : Int) ((word.length : Nat) : Int))

noncomputable def m_least_period (word : Tx) : Res Int :=
  Res.bind (m_check_word word) fun (t1 : Unit) => Res.bind (m_shortest_period word) fun (t2 : Int) => .ok t2

noncomputable def m_critical_cuts (word : Tx) : Res (List Int) :=
  Res.bind (m_check_word word) fun (t1 : Unit) => Res.bind (m_shortest_period word) fun (t2 : Int) => Res.bind (rngR (1 : Int) ((word.length : Nat) : Int)) fun xs3 => Res.bind (lcR (fun (cut : Int) => Res.bind (noX (m_shortest_local word cut)) fun (t4 : Int) => .ok (decide (t4 = t2))) (fun (cut : Int) => .ok cut) xs3) fun (ys5 : List Int) => .ok ys5

noncomputable def m_law_refused (text : Tx) (which : Int) (cut : Int) : Res Bool :=
  Res.bind (Res.catch (Res.bind (if (decide (which = (0 : Int))) = true then Res.bind (m_least_period text) fun (t2 : Int) => .ok () else Res.bind (if (decide (which = (1 : Int))) = true then Res.bind (m_local_period text cut) fun (t3 : Int) => .ok () else Res.bind (m_critical_cuts text) fun (t4 : (List Int)) => .ok ()) fun (s : Unit) => .ok ()) fun (s : Unit) => .ok (.fin ())) (fun (xe1 : Exn) => if kn_WordError xe1 = true then Res.bind (Res.bind (Res.bind (is_BadWord xe1) fun b => .ok (!b)) fun b6 => if b6 = true then .ok true else (Res.bind (is_OutOfBounds xe1) fun b5 => if b5 = true then .ok true else (is_TooMany xe1))) fun b7 => (if b7 = true then .ok (.ret false) else Res.bind (Res.bind (fldT "BadWord" "word" xe1) fun (t8 : Tx) => (.ok (decide (t8 = text)))) fun (t9 : Bool) => .ok (.ret t9)) else .bad)) fun (y : Lp Bool Unit) => match y with | .ret r => .ok r | .fin s => .ok false

noncomputable def m_law_fits (word : Tx) (low : Int) (high : Int) (period : Int) : Res Bool :=
  Res.bind (rngR (max (0 : Int) low) high) fun xs1 => Res.bind (forR (fun (place : Int) (s : Unit) => (if (decide ((place + period) < ((word.length : Nat) : Int))) = true then Res.bind (Res.bind (xGet word place) fun (t2 : Tx) => Res.bind (xGet word (place + period)) fun (t3 : Tx) => (.ok (!decide (t2 = t3)))) fun b4 => (if b4 = true then .ok (.rt false) else .ok (.nx ())) else .ok (.nx ()))) xs1 ()) fun (y : Lp Bool Unit) => match y with | .ret r => .ok r | .fin s => .ok true

noncomputable def m_law_least (word : Tx) : Res Int :=
  Res.bind (rngR (1 : Int) ((word.length : Nat) : Int)) fun xs1 => Res.bind (forR (fun (period : Int) (s : Unit) => Res.bind (m_law_fits word (0 : Int) ((word.length : Nat) : Int) period) fun (t2 : Bool) => (if t2 = true then .ok (.rt period) else .ok (.nx ()))) xs1 ()) fun (y : Lp Int Unit) => match y with | .ret r => .ok r | .fin s => .ok (max (1 : Int) ((word.length : Nat) : Int))

noncomputable def m_law_local (word : Tx) (cut : Int) : Res Int :=
  Res.bind (rngR (1 : Int) ((word.length : Nat) : Int)) fun xs1 => Res.bind (forR (fun (period : Int) (s : Unit) => Res.bind (m_law_fits word (cut - period) cut period) fun (t2 : Bool) => (if t2 = true then .ok (.rt period) else .ok (.nx ()))) xs1 ()) fun (y : Lp Int Unit) => match y with | .ret r => .ok r | .fin s => .ok ((word.length : Nat) : Int)

noncomputable def m_law_same (told : (List Int)) (due : (List Int)) : Res Bool :=
  (if ((!true) || (!decide (((told.length : Nat) : Int) = ((due.length : Nat) : Int)))) = true then .ok false else Res.bind (rngR 0 ((due.length : Nat) : Int)) fun xs1 => Res.bind (forR (fun (k_ : Int) (s : Unit) => Res.bind (Res.bind (lGet told k_) fun (t2 : Int) => Res.bind (m_law_whole t2) fun (t3 : Bool) => (if (!t3) = true then .ok (true, ()) else Res.bind (Res.bind (lGet told k_) fun (t4 : Int) => Res.bind (lGet due k_) fun (t5 : Int) => (.ok (!decide (t4 = t5)))) fun (b6 : Bool) => .ok (b6, ()))) fun (s : Bool × Unit) => match s with | (b7, _) => (if b7 = true then .ok (.rt false) else .ok (.nx ()))) xs1 ()) fun (y : Lp Bool Unit) => match y with | .ret r => .ok r | .fin s => .ok true)

noncomputable def m_law_kept (word : Tx) : Res Bool :=
  Res.bind (m_law_least word) fun (t1 : Int) => Res.bind (m_least_period word) fun (t2 : Int) => Res.bind (Res.bind (m_law_whole t2) fun (t3 : Bool) => (if (!t3) = true then .ok (true, ()) else .ok ((!decide (t2 = t1)), ()))) fun (s : Bool × Unit) => match s with | (b4, _) => (if b4 = true then .ok false else Res.bind (.ok ([] : List Int)) fun (due : (List Int)) => Res.bind (rngR (1 : Int) ((word.length : Nat) : Int)) fun xs5 => Res.bind (forR (fun (cut : Int) (s : (List Int)) => match s with | due => Res.bind (m_law_local word cut) fun (t6 : Int) => Res.bind (m_local_period word cut) fun (t7 : Int) => Res.bind (Res.bind (m_law_whole t7) fun (t8 : Bool) => (if (!t8) = true then .ok (true, ()) else (if (!decide (t7 = t6)) = true then .ok (true, ()) else .ok ((decide (t6 > t1)), ())))) fun (s : Bool × Unit) => match s with | (b9, _) => (if b9 = true then .ok (.rt false) else Res.bind (if (decide (t6 = t1)) = true then Res.bind (lApp due cut) fun (due : (List Int)) => .ok due else .ok due) fun (s : (List Int)) => match s with | due => .ok (.nx due))) xs5 due) fun (y : Lp Bool (List Int)) => match y with | .ret r => .ok r | .fin s => match s with | due => (if (decide (((word.length : Nat) : Int) > (1 : Int))) = true then Res.bind (if (List.isEmpty due) = true then .ok (true, ()) else Res.bind (Res.bind (Res.bind (lGet due (0 : Int)) fun (t12 : Int) => (.ok (!decide (t12 = (1 : Int))))) fun b14 => if b14 = true then (Res.bind (lGet due (0 : Int)) fun (t13 : Int) => (.ok (decide (t13 ≥ t1)))) else .ok false) fun (b15 : Bool) => .ok (b15, ())) fun (s : Bool × Unit) => match s with | (b16, _) => (if b16 = true then .ok false else Res.bind (m_critical_cuts word) fun (t17 : (List Int)) => Res.bind (m_law_same t17 due) fun (t19 : Bool) => (if (!t19) = true then .ok false else Res.bind (lApp t17 (0 : Int)) fun (rows : (List Int)) => Res.bind (m_least_period word) fun (t21 : Int) => (if (!decide (t21 = t1)) = true then .ok false else Res.bind (m_critical_cuts word) fun (t23 : (List Int)) => Res.bind (m_law_same t23 due) fun (t24 : Bool) => .ok t24))) else Res.bind (m_critical_cuts word) fun (t25 : (List Int)) => Res.bind (m_law_same t25 due) fun (t27 : Bool) => (if (!t27) = true then .ok false else Res.bind (lApp t25 (0 : Int)) fun (rows : (List Int)) => Res.bind (m_least_period word) fun (t29 : Int) => (if (!decide (t29 = t1)) = true then .ok false else Res.bind (m_critical_cuts word) fun (t31 : (List Int)) => Res.bind (m_law_same t31 due) fun (t32 : Bool) => .ok t32))))

noncomputable def m_law (script : Scr) : Res Bool :=
  Res.bind (m_law_source script) fun (t1 : Src) => Res.bind (m_law_draw t1 (8 : Int)) fun (t3 : Int × Src) => Res.bind (if (decide (t3.1 = (7 : Int))) = true then Res.bind (m_law_word t3.2 (17 : Int) (60 : Int)) fun (t5 : Tx × Src) => .ok (t5.2, t5.1) else Res.bind (m_law_word t3.2 (0 : Int) (16 : Int)) fun (t7 : Tx × Src) => .ok (t7.2, t7.1)) fun (s : Src × Tx) => match s with | (source, word) => Res.bind (m_law_word source (1 : Int) (6 : Int)) fun (t9 : Tx × Src) => Res.bind (m_law_draw t9.2 (3 : Int)) fun (t11 : Int × Src) => Res.bind (.ok ((2 : Int) + t11.1)) fun (t12 : Int) => Res.bind (xRep t9.1 t12) fun (t13 : Tx) => Res.bind (m_law_draw t11.2 ((t9.1.length : Nat) : Int)) fun (t15 : Int × Src) => Res.bind (xCat t13 (cutL t9.1 none (some t15.1))) fun (t16 : Tx) => Res.bind (m_law_draw t15.2 (26 : Int)) fun (t18 : Int × Src) => Res.bind (xGet ([97, 98, 99, 100, 101, 102, 103, 104, 105, 106, 107, 108, 109, 110, 111, 112, 113, 114, 115, 116, 117, 118, 119, 120, 121, 122] : Tx) t18.1) fun (t19 : Tx) => Res.bind (m_law_draw t18.2 (8 : Int)) fun (t21 : Int × Src) => Res.bind (xGet ([96, 123, 65, 90, 48, 32, 45, 10] : Tx) t21.1) fun (t22 : Tx) => Res.bind (m_law_draw t21.2 (((word.length : Nat) : Int) + (1 : Int))) fun (t24 : Int × Src) => Res.bind (Res.bind (xCat (cutL word none (some t24.1)) t22) fun (t25 : Tx) => (xCat t25 (cutL word (some t24.1) none))) fun (bad : Tx) => Res.bind (m_law_draw t24.2 (1000 : Int)) fun (t27 : Int × Src) => Res.bind (xRep t19 (60 : Int)) fun (t28 : Tx) => Res.bind (forR (fun (asked : Tx) (s : Unit) => Res.bind (m_law_kept asked) fun (t29 : Bool) => (if (!t29) = true then .ok (.rt false) else Res.bind (.ok ((asked.length : Nat) : Int)) fun (size : Int) => Res.bind (forR (fun (cut : Int) (s : Unit) => Res.bind (m_law_outside asked cut) fun (t30 : Bool) => (if (!t30) = true then .ok (.rt false) else .ok (.nx ()))) [(0 : Int), size, ((-(1 : Int)) - t27.1), ((size + (1 : Int)) + t27.1), (1000000000000000000000000000000000000000 : Int), (-(1000000000000000000000000000000000000000 : Int))] ()) fun (y : Lp Bool Unit) => match y with | .ret r => .ok (.rt r) | .fin s => .ok (.nx ()))) [word, t16, word, t28, t19, ([] : Tx)] ()) fun (y : Lp Bool Unit) => match y with | .ret r => .ok r | .fin s => Res.bind (rngR 0 (3 : Int)) fun xs33 => Res.bind (forR (fun (which : Int) (s : Unit) => Res.bind (xRep t19 (61 : Int)) fun (t34 : Tx) => Res.bind (forR (fun (text : Tx) (s : Unit) => Res.bind (Res.bind (m_law_refused text which (1 : Int)) fun (t35 : Bool) => (if (!t35) = true then .ok (true, ()) else Res.bind (m_law_refused text which (0 : Int)) fun (t36 : Bool) => .ok ((!t36), ()))) fun (s : Bool × Unit) => match s with | (b37, _) => (if b37 = true then .ok (.rt false) else .ok (.nx ()))) [bad, t34] ()) fun (y : Lp Bool Unit) => match y with | .ret r => .ok (.rt r) | .fin s => .ok (.nx ())) xs33 ()) fun (y : Lp Bool Unit) => match y with | .ret r => .ok r | .fin s => .ok true
end G
namespace G
open PySem PySem.Spec PyProof.Rows L2 M
def top (i : Nat) : Stmt := PySem.Challenge.pw_wordruns_k49_critical_cuts.main.body.getD i (.Pass ⟨0, 0, 0, 0⟩)
abbrev s_law_source : Stmt := top 18
abbrev N_law_source : List Str := ["script", "cells", "seed", "cell"]
theorem sc_law_source : FnScope N_law_source ["script"] (defScope s_law_source) := ⟨rfl, rfl, rfl, by decide +kernel, rfl, by decide +kernel, by decide +kernel⟩

abbrev s_law_draw : Stmt := top 19
abbrev N_law_draw : List Str := ["source", "size", "great", "first", "second", "third", "digit"]
theorem sc_law_draw : FnScope N_law_draw ["source", "size"] (defScope s_law_draw) := ⟨rfl, rfl, rfl, by decide +kernel, rfl, by decide +kernel, by decide +kernel⟩

abbrev s_law_word : Stmt := top 20
abbrev N_law_word : List Str := ["source", "low", "high", "letters", "size", "spread", "base", "word", "turn", "deed", "rank", "back"]
theorem sc_law_word : FnScope N_law_word ["source", "low", "high"] (defScope s_law_word) := ⟨rfl, rfl, rfl, by decide +kernel, rfl, by decide +kernel, by decide +kernel⟩

abbrev s_is_letters : Stmt := top 6
abbrev N_is_letters : List Str := ["text", "most", "letter"]
theorem sc_is_letters : FnScope N_is_letters ["text", "most"] (defScope s_is_letters) := ⟨rfl, rfl, rfl, by decide +kernel, rfl, by decide +kernel, by decide +kernel⟩

abbrev s_is_word : Stmt := top 7
abbrev N_is_word : List Str := ["text"]
theorem sc_is_word : FnScope N_is_word ["text"] (defScope s_is_word) := ⟨rfl, rfl, rfl, by decide +kernel, rfl, by decide +kernel, by decide +kernel⟩

abbrev s_check_word : Stmt := top 8
abbrev N_check_word : List Str := ["word"]
theorem sc_check_word : FnScope N_check_word ["word"] (defScope s_check_word) := ⟨rfl, rfl, rfl, by decide +kernel, rfl, by decide +kernel, by decide +kernel⟩

abbrev s_check_range : Stmt := top 9
abbrev N_check_range : List Str := ["value", "low", "high"]
theorem sc_check_range : FnScope N_check_range ["value", "low", "high"] (defScope s_check_range) := ⟨rfl, rfl, rfl, by decide +kernel, rfl, by decide +kernel, by decide +kernel⟩

abbrev s_shortest_local : Stmt := top 12
abbrev N_shortest_local : List Str := ["word", "cut", "period", "first", "last"]
theorem sc_shortest_local : FnScope N_shortest_local ["word", "cut"] (defScope s_shortest_local) := ⟨rfl, rfl, rfl, by decide +kernel, rfl, by decide +kernel, by decide +kernel⟩

abbrev s_local_period : Stmt := top 14
abbrev N_local_period : List Str := ["word", "cut"]
theorem sc_local_period : FnScope N_local_period ["word", "cut"] (defScope s_local_period) := ⟨rfl, rfl, rfl, by decide +kernel, rfl, by decide +kernel, by decide +kernel⟩

abbrev s_law_whole : Stmt := top 17
abbrev N_law_whole : List Str := ["thing"]
theorem sc_law_whole : FnScope N_law_whole ["thing"] (defScope s_law_whole) := ⟨rfl, rfl, rfl, by decide +kernel, rfl, by decide +kernel, by decide +kernel⟩

abbrev s_law_outside : Stmt := top 26
abbrev N_law_outside : List Str := ["word", "cut", "e"]
theorem sc_law_outside : FnScope N_law_outside ["word", "cut"] (defScope s_law_outside) := ⟨rfl, rfl, rfl, by decide +kernel, rfl, by decide +kernel, by decide +kernel⟩

abbrev s_shortest_period : Stmt := top 11
abbrev N_shortest_period : List Str := ["word", "period"]
theorem sc_shortest_period : FnScope N_shortest_period ["word"] (defScope s_shortest_period) := ⟨rfl, rfl, rfl, by decide +kernel, rfl, by decide +kernel, by decide +kernel⟩

abbrev s_least_period : Stmt := top 13
abbrev N_least_period : List Str := ["word"]
theorem sc_least_period : FnScope N_least_period ["word"] (defScope s_least_period) := ⟨rfl, rfl, rfl, by decide +kernel, rfl, by decide +kernel, by decide +kernel⟩

abbrev s_critical_cuts : Stmt := top 15
abbrev N_critical_cuts : List Str := ["word", "least", "cut"]
theorem sc_critical_cuts : FnScope N_critical_cuts ["word"] (defScope s_critical_cuts) := ⟨rfl, rfl, rfl, by decide +kernel, rfl, by decide +kernel, by decide +kernel⟩

abbrev s_law_refused : Stmt := top 27
abbrev N_law_refused : List Str := ["text", "which", "cut", "e"]
theorem sc_law_refused : FnScope N_law_refused ["text", "which", "cut"] (defScope s_law_refused) := ⟨rfl, rfl, rfl, by decide +kernel, rfl, by decide +kernel, by decide +kernel⟩

abbrev s_law_fits : Stmt := top 21
abbrev N_law_fits : List Str := ["word", "low", "high", "period", "place"]
theorem sc_law_fits : FnScope N_law_fits ["word", "low", "high", "period"] (defScope s_law_fits) := ⟨rfl, rfl, rfl, by decide +kernel, rfl, by decide +kernel, by decide +kernel⟩

abbrev s_law_least : Stmt := top 22
abbrev N_law_least : List Str := ["word", "period"]
theorem sc_law_least : FnScope N_law_least ["word"] (defScope s_law_least) := ⟨rfl, rfl, rfl, by decide +kernel, rfl, by decide +kernel, by decide +kernel⟩

abbrev s_law_local : Stmt := top 23
abbrev N_law_local : List Str := ["word", "cut", "period"]
theorem sc_law_local : FnScope N_law_local ["word", "cut"] (defScope s_law_local) := ⟨rfl, rfl, rfl, by decide +kernel, rfl, by decide +kernel, by decide +kernel⟩

abbrev s_law_same : Stmt := top 24
abbrev N_law_same : List Str := ["told", "due", "k"]
theorem sc_law_same : FnScope N_law_same ["told", "due"] (defScope s_law_same) := ⟨rfl, rfl, rfl, by decide +kernel, rfl, by decide +kernel, by decide +kernel⟩

abbrev s_law_kept : Stmt := top 25
abbrev N_law_kept : List Str := ["word", "least", "told", "due", "cut", "rows", "own"]
theorem sc_law_kept : FnScope N_law_kept ["word"] (defScope s_law_kept) := ⟨rfl, rfl, rfl, by decide +kernel, rfl, by decide +kernel, by decide +kernel⟩

abbrev s_law : Stmt := top 28
abbrev N_law : List Str := ["script", "source", "root", "times", "twin", "letter", "sign", "at", "bad", "off", "asked", "which", "word", "size", "cut", "text"]
theorem sc_law : FnScope N_law ["script"] (defScope s_law) := ⟨rfl, rfl, rfl, by decide +kernel, rfl, by decide +kernel, by decide +kernel⟩
structure Txt (Pg : Program) (w : World) (K : PySem.W.Frag) (mg : Str → Option Value) where
  a_law_source : Addr
  d_law_source : FuncData
  F_law_source : Fun K "_law_source" "_law_source" s_law_source a_law_source d_law_source
  g_law_source : mg "_law_source" = some (.ref a_law_source)
  b_law_source : Binds K d_law_source ["script"] []
  a_law_draw : Addr
  d_law_draw : FuncData
  F_law_draw : Fun K "_law_draw" "_law_draw" s_law_draw a_law_draw d_law_draw
  g_law_draw : mg "_law_draw" = some (.ref a_law_draw)
  b_law_draw : Binds K d_law_draw ["source", "size"] []
  a_law_word : Addr
  d_law_word : FuncData
  F_law_word : Fun K "_law_word" "_law_word" s_law_word a_law_word d_law_word
  g_law_word : mg "_law_word" = some (.ref a_law_word)
  b_law_word : Binds K d_law_word ["source", "low", "high"] []
  a_is_letters : Addr
  d_is_letters : FuncData
  F_is_letters : Fun K "is_letters" "is_letters" s_is_letters a_is_letters d_is_letters
  g_is_letters : mg "is_letters" = some (.ref a_is_letters)
  b_is_letters : Binds K d_is_letters ["text", "most"] []
  a_is_word : Addr
  d_is_word : FuncData
  F_is_word : Fun K "is_word" "is_word" s_is_word a_is_word d_is_word
  g_is_word : mg "is_word" = some (.ref a_is_word)
  b_is_word : Binds K d_is_word ["text"] []
  a_check_word : Addr
  d_check_word : FuncData
  F_check_word : Fun K "check_word" "check_word" s_check_word a_check_word d_check_word
  g_check_word : mg "check_word" = some (.ref a_check_word)
  b_check_word : Binds K d_check_word ["word"] []
  a_check_range : Addr
  d_check_range : FuncData
  F_check_range : Fun K "check_range" "check_range" s_check_range a_check_range d_check_range
  g_check_range : mg "check_range" = some (.ref a_check_range)
  b_check_range : Binds K d_check_range ["value", "low", "high"] []
  a_shortest_local : Addr
  d_shortest_local : FuncData
  F_shortest_local : Fun K "shortest_local" "shortest_local" s_shortest_local a_shortest_local d_shortest_local
  g_shortest_local : mg "shortest_local" = some (.ref a_shortest_local)
  b_shortest_local : Binds K d_shortest_local ["word", "cut"] []
  a_local_period : Addr
  d_local_period : FuncData
  F_local_period : Fun K "local_period" "local_period" s_local_period a_local_period d_local_period
  g_local_period : mg "local_period" = some (.ref a_local_period)
  b_local_period : Binds K d_local_period ["word", "cut"] []
  a_law_whole : Addr
  d_law_whole : FuncData
  F_law_whole : Fun K "_law_whole" "_law_whole" s_law_whole a_law_whole d_law_whole
  g_law_whole : mg "_law_whole" = some (.ref a_law_whole)
  b_law_whole : Binds K d_law_whole ["thing"] []
  a_law_outside : Addr
  d_law_outside : FuncData
  F_law_outside : Fun K "_law_outside" "_law_outside" s_law_outside a_law_outside d_law_outside
  g_law_outside : mg "_law_outside" = some (.ref a_law_outside)
  b_law_outside : Binds K d_law_outside ["word", "cut"] []
  a_shortest_period : Addr
  d_shortest_period : FuncData
  F_shortest_period : Fun K "shortest_period" "shortest_period" s_shortest_period a_shortest_period d_shortest_period
  g_shortest_period : mg "shortest_period" = some (.ref a_shortest_period)
  b_shortest_period : Binds K d_shortest_period ["word"] []
  a_least_period : Addr
  d_least_period : FuncData
  F_least_period : Fun K "least_period" "least_period" s_least_period a_least_period d_least_period
  g_least_period : mg "least_period" = some (.ref a_least_period)
  b_least_period : Binds K d_least_period ["word"] []
  a_critical_cuts : Addr
  d_critical_cuts : FuncData
  F_critical_cuts : Fun K "critical_cuts" "critical_cuts" s_critical_cuts a_critical_cuts d_critical_cuts
  g_critical_cuts : mg "critical_cuts" = some (.ref a_critical_cuts)
  b_critical_cuts : Binds K d_critical_cuts ["word"] []
  a_law_refused : Addr
  d_law_refused : FuncData
  F_law_refused : Fun K "_law_refused" "_law_refused" s_law_refused a_law_refused d_law_refused
  g_law_refused : mg "_law_refused" = some (.ref a_law_refused)
  b_law_refused : Binds K d_law_refused ["text", "which", "cut"] []
  a_law_fits : Addr
  d_law_fits : FuncData
  F_law_fits : Fun K "_law_fits" "_law_fits" s_law_fits a_law_fits d_law_fits
  g_law_fits : mg "_law_fits" = some (.ref a_law_fits)
  b_law_fits : Binds K d_law_fits ["word", "low", "high", "period"] []
  a_law_least : Addr
  d_law_least : FuncData
  F_law_least : Fun K "_law_least" "_law_least" s_law_least a_law_least d_law_least
  g_law_least : mg "_law_least" = some (.ref a_law_least)
  b_law_least : Binds K d_law_least ["word"] []
  a_law_local : Addr
  d_law_local : FuncData
  F_law_local : Fun K "_law_local" "_law_local" s_law_local a_law_local d_law_local
  g_law_local : mg "_law_local" = some (.ref a_law_local)
  b_law_local : Binds K d_law_local ["word", "cut"] []
  a_law_same : Addr
  d_law_same : FuncData
  F_law_same : Fun K "_law_same" "_law_same" s_law_same a_law_same d_law_same
  g_law_same : mg "_law_same" = some (.ref a_law_same)
  b_law_same : Binds K d_law_same ["told", "due"] []
  a_law_kept : Addr
  d_law_kept : FuncData
  F_law_kept : Fun K "_law_kept" "_law_kept" s_law_kept a_law_kept d_law_kept
  g_law_kept : mg "_law_kept" = some (.ref a_law_kept)
  b_law_kept : Binds K d_law_kept ["word"] []
  a_law : Addr
  d_law : FuncData
  F_law : Fun K "law" "law" s_law a_law d_law
  g_law : mg "law" = some (.ref a_law)
  b_law : Binds K d_law ["script"] []
  k_local_period_0 : KBn K d_local_period ["word", "cut"] 0 ["word", "cut"] (gI [0, 1]) (gI [0, 1])
  k_least_period_1 : KBn K d_least_period ["word"] 0 ["word"] (gI [0]) (gI [0])
  k_critical_cuts_2 : KBn K d_critical_cuts ["word"] 0 ["word"] (gI [0]) (gI [0])
  z_abs : mg "abs" = none
  z_bool : mg "bool" = none
  z_int : mg "int" = none
  z_isinstance : mg "isinstance" = none
  z_len : mg "len" = none
  z_list : mg "list" = none
  z_max : mg "max" = none
  z_min : mg "min" = none
  z_range : mg "range" = none
  C_BadWord : Addr
  I_BadWord : Addr
  D_BadWord : FuncData
  x_BadWord : ∀ {base : Heap}, ExcN Pg w K mg base "BadWord" "word" C_BadWord I_BadWord D_BadWord
  C_OutOfBounds : Addr
  I_OutOfBounds : Addr
  D_OutOfBounds : FuncData
  x_OutOfBounds : ∀ {base : Heap}, ExcN Pg w K mg base "OutOfBounds" "value" C_OutOfBounds I_OutOfBounds D_OutOfBounds
  C_TooMany : Addr
  I_TooMany : Addr
  D_TooMany : FuncData
  x_TooMany : ∀ {base : Heap}, ExcN Pg w K mg base "TooMany" "most" C_TooMany I_TooMany D_TooMany
  gC_BadWord : mg "BadWord" = some (.ref C_BadWord)
  gC_OutOfBounds : mg "OutOfBounds" = some (.ref C_OutOfBounds)
  gC_TooMany : mg "TooMany" = some (.ref C_TooMany)
  C_WordError : Addr
  gC_WordError : mg "WordError" = some (.ref C_WordError)
  q_BadWord_BadWord : PySem.W.kitOne K (.ref C_BadWord) (.ref C_BadWord) = some true
  q_OutOfBounds_BadWord : PySem.W.kitOne K (.ref C_OutOfBounds) (.ref C_BadWord) = some false
  q_TooMany_BadWord : PySem.W.kitOne K (.ref C_TooMany) (.ref C_BadWord) = some false
  q_BadWord_OutOfBounds : PySem.W.kitOne K (.ref C_BadWord) (.ref C_OutOfBounds) = some false
  q_OutOfBounds_OutOfBounds : PySem.W.kitOne K (.ref C_OutOfBounds) (.ref C_OutOfBounds) = some true
  q_TooMany_OutOfBounds : PySem.W.kitOne K (.ref C_TooMany) (.ref C_OutOfBounds) = some false
  q_BadWord_TooMany : PySem.W.kitOne K (.ref C_BadWord) (.ref C_TooMany) = some false
  q_OutOfBounds_TooMany : PySem.W.kitOne K (.ref C_OutOfBounds) (.ref C_TooMany) = some false
  q_TooMany_TooMany : PySem.W.kitOne K (.ref C_TooMany) (.ref C_TooMany) = some true
  w_BadWord_WordError : PySem.W.exmOne K (.ref C_BadWord) (.ref C_WordError) = some true
  w_OutOfBounds_WordError : PySem.W.exmOne K (.ref C_OutOfBounds) (.ref C_WordError) = some true
  w_TooMany_WordError : PySem.W.exmOne K (.ref C_TooMany) (.ref C_WordError) = some true
section
variable {Pg : Program} {w : World} {K : PySem.W.Frag} {mg : Str → Option Value} {base : Heap}
theorem is_BadWord_ok (T : Txt Pg w K mg) {e : Exn} {cls : Value} (h : mg e.cls = some cls) : IsOk K cls (.ref T.C_BadWord) (is_BadWord e) := by
  unfold is_BadWord
  by_cases h_BadWord : e.cls = "BadWord"
  · rw [h_BadWord, (T.x_BadWord (base := {})).gC] at h
    rw [if_pos h_BadWord]
    exact .inr ⟨_, _, (Option.some.inj h).symm, (T.x_BadWord (base := {})).ec, T.q_BadWord_BadWord, rfl⟩
  rw [if_neg h_BadWord]
  by_cases h_OutOfBounds : e.cls = "OutOfBounds"
  · rw [h_OutOfBounds, (T.x_OutOfBounds (base := {})).gC] at h
    rw [if_pos h_OutOfBounds]
    exact .inr ⟨_, _, (Option.some.inj h).symm, (T.x_OutOfBounds (base := {})).ec, T.q_OutOfBounds_BadWord, rfl⟩
  rw [if_neg h_OutOfBounds]
  by_cases h_TooMany : e.cls = "TooMany"
  · rw [h_TooMany, (T.x_TooMany (base := {})).gC] at h
    rw [if_pos h_TooMany]
    exact .inr ⟨_, _, (Option.some.inj h).symm, (T.x_TooMany (base := {})).ec, T.q_TooMany_BadWord, rfl⟩
  rw [if_neg h_TooMany]
  exact .inl rfl
theorem is_OutOfBounds_ok (T : Txt Pg w K mg) {e : Exn} {cls : Value} (h : mg e.cls = some cls) : IsOk K cls (.ref T.C_OutOfBounds) (is_OutOfBounds e) := by
  unfold is_OutOfBounds
  by_cases h_BadWord : e.cls = "BadWord"
  · rw [h_BadWord, (T.x_BadWord (base := {})).gC] at h
    rw [if_pos h_BadWord]
    exact .inr ⟨_, _, (Option.some.inj h).symm, (T.x_BadWord (base := {})).ec, T.q_BadWord_OutOfBounds, rfl⟩
  rw [if_neg h_BadWord]
  by_cases h_OutOfBounds : e.cls = "OutOfBounds"
  · rw [h_OutOfBounds, (T.x_OutOfBounds (base := {})).gC] at h
    rw [if_pos h_OutOfBounds]
    exact .inr ⟨_, _, (Option.some.inj h).symm, (T.x_OutOfBounds (base := {})).ec, T.q_OutOfBounds_OutOfBounds, rfl⟩
  rw [if_neg h_OutOfBounds]
  by_cases h_TooMany : e.cls = "TooMany"
  · rw [h_TooMany, (T.x_TooMany (base := {})).gC] at h
    rw [if_pos h_TooMany]
    exact .inr ⟨_, _, (Option.some.inj h).symm, (T.x_TooMany (base := {})).ec, T.q_TooMany_OutOfBounds, rfl⟩
  rw [if_neg h_TooMany]
  exact .inl rfl
theorem is_TooMany_ok (T : Txt Pg w K mg) {e : Exn} {cls : Value} (h : mg e.cls = some cls) : IsOk K cls (.ref T.C_TooMany) (is_TooMany e) := by
  unfold is_TooMany
  by_cases h_BadWord : e.cls = "BadWord"
  · rw [h_BadWord, (T.x_BadWord (base := {})).gC] at h
    rw [if_pos h_BadWord]
    exact .inr ⟨_, _, (Option.some.inj h).symm, (T.x_BadWord (base := {})).ec, T.q_BadWord_TooMany, rfl⟩
  rw [if_neg h_BadWord]
  by_cases h_OutOfBounds : e.cls = "OutOfBounds"
  · rw [h_OutOfBounds, (T.x_OutOfBounds (base := {})).gC] at h
    rw [if_pos h_OutOfBounds]
    exact .inr ⟨_, _, (Option.some.inj h).symm, (T.x_OutOfBounds (base := {})).ec, T.q_OutOfBounds_TooMany, rfl⟩
  rw [if_neg h_OutOfBounds]
  by_cases h_TooMany : e.cls = "TooMany"
  · rw [h_TooMany, (T.x_TooMany (base := {})).gC] at h
    rw [if_pos h_TooMany]
    exact .inr ⟨_, _, (Option.some.inj h).symm, (T.x_TooMany (base := {})).ec, T.q_TooMany_TooMany, rfl⟩
  rw [if_neg h_TooMany]
  exact .inl rfl
theorem kn_WordError_ok (T : Txt Pg w K mg) {e : Exn} (h : kn_WordError e = true) : ∃ cls, mg e.cls = some cls ∧ PySem.W.exmOne K cls (.ref T.C_WordError) = some true := by
  unfold kn_WordError at h
  simp only [Bool.or_eq_true, decide_eq_true_eq] at h
  rcases h with (h | h) | h
  · exact ⟨_, by rw [h]; exact (T.x_BadWord (base := {})).gC, T.w_BadWord_WordError⟩
  · exact ⟨_, by rw [h]; exact (T.x_OutOfBounds (base := {})).gC, T.w_OutOfBounds_WordError⟩
  · exact ⟨_, by rw [h]; exact (T.x_TooMany (base := {})).gC, T.w_TooMany_WordError⟩
theorem ok_law_source (T : Txt Pg w K mg) : FnOk Pg w K mg base (L2N.CX Pg w) 1 T.a_law_source T.d_law_source ["script"] (SpM K mg 1 (fun (a : Scr) => [.im a]) (fun a => m_law_source a) (fun b => .own b)) := by
  refine okN T.F_law_source sc_law_source (fun vs H Q E h => h.1) fun cdv A outer s H vs Q E hr h => ?_
  obtain ⟨hl, script, I, ρ, Θ, hE, h⟩ := h
  have hE : Env K I H (start N_law_source vs) [.im (script : Scr), .any, .any, .any] ρ Θ := st_start hE (by rw [hl]; first | rfl | done)
  refine ⟨_, (pss_cons (ps_setLc (i := 1) (own := [("cell", 3)]) (g := gName 3) (by rfl) sc_law_source.nd rfl rfl (sw_true rfl rfl rfl (by decide +kernel)) (pi_list (pe_slice sl_list (pv 0) po_none (po_some pe_int))) (blkOk_by (N := N_law_source) (sc := defScope s_law_source) (by decide +kernel)) (fun _ _ _ _ _ => pg_name (i := 3) sc_law_source.nd rfl (.inl rfl)) (fun _ _ _ _ _ => pts_nil) (fun _ _ _ _ _ => (pe_op op_mod (pe_callB call_abs (by rfl) T.z_abs (by decide +kernel) (pa_cons (pe_callTy call_int1 (by rfl) T.z_int (by decide +kernel) (pa_cons (pv 3) pa_nil)) pa_nil)) (pe_op op_powW (pe_op op_powW pe_int pe_int) pe_int))))
      (pss_cons (ps_set (i := 2) sc_law_source.nd rfl (.inl rfl) (pe_op op_add pe_int (pe_callB call_len_seq (by rfl) T.z_len PySem.boot_len (pa_cons (pv 1) pa_nil))))
      (pss_cons (ps_for (passes_of rfl) rfl (pi_list (pv 1)) (pg_name (i := 3) sc_law_source.nd rfl (.inl rfl)) (pss_one (ps_set (i := 2) sc_law_source.nd rfl (.inl rfl) (pe_op op_mod (pe_callTy call_int1 (by rfl) T.z_int (by decide +kernel) (pa_cons (pe_op op_add (pe_op op_add (pe_op op_mulW (pv 2) pe_int) (pe_op op_mod (pe_callTy call_int1 (by rfl) T.z_int (by decide +kernel) (pa_cons (pv 3) pa_nil)) pe_int)) pe_int) pa_nil)) pe_int))))
      (pss_one (ps_ret (pe_lst (pa_cons (pe_lc (own := [("cell", 3)]) (g := gName 3) (by rfl) sc_law_source.nd (pi_list (pv 1)) (blkOk_by (N := N_law_source) (sc := defScope s_law_source) (by decide +kernel)) (fun _ _ _ _ _ => pg_name (i := 3) sc_law_source.nd rfl (.inl rfl)) (fun _ _ _ _ _ => pts_one (pt_cmpR op_ge (pv 3) (pe_op op_powW pe_int pe_int) (nomark _))) (fun _ _ _ _ _ => (pv 3))) (pa_cons (pv 2) (pa_cons pe_int pa_nil))))))))), ?_⟩
  generalize start N_law_source vs = σ at hE ⊢
  change wp (m_law_source script) _ _ at h
  unfold m_law_source at h
  refine uSeq (uAsg (uLc (uList (uSl ?_))))
  refine st_var hE (i := 0) rfl fun v hE => ?_
  refine st_bdp hE ho_none ?_
  refine st_bdp hE (ho_p (hf_c (a := (63 : Int)) rfl trivial)) ?_
  refine st_slScr hE fun I H v hE => ?_
  refine it_list hE fun ja hJ => ?_
  refine st_lcm (α := Int) (β := Int) (i := 3) hJ hE rfl h (fun ys2 I H v hE h => ?_) (fun cell I H σ ρ' Θ' Qe hE h => ?_)
  rotate_left 1
  ·
    refine st_pushm hE (hf_pp hr_mod (hf_c1p hc_abs (hf_c1p hc_int (hf_var rfl))) (hf_is (m := (powI (1000000000000000000000000000000000000000000000000000000000000 : Int) (6 : Int))) (m' := .ok (1000000000000000000000000000000000000000000000000000000000000000000000000000000000000000000000000000000000000000000000000000000000000000000000000000000000000000000000000000000000000000000000000000000000000000000000000000000000000000000000000000000000000000000000000000000000000000000000000000000000000000000000000000000000000000000000000000000000000000000000000 : Int)) (hf_pp hr_pow (hf_is (m := (powI (10 : Int) (60 : Int))) (m' := .ok (1000000000000000000000000000000000000000000000000000000000000 : Int)) (hf_pp hr_pow (hf_c (a := (10 : Int)) rfl trivial) (hf_c (a := (60 : Int)) rfl trivial)) (by decide +kernel)) (hf_c (a := (6 : Int)) rfl trivial)) (by decide +kernel))) h fun t1 hE h => ?_
    exact h _ _ _ hE
  refine st_freezeT hE fun I hE => ?_
  refine st_store (Γ' := [.im (script : Scr), .im (ys2 : (List Int)), .any, .any]) hE rfl (by decide : (1 : Nat) < 4) fun σ hE => ?_
  refine uSeq ?_
  refine st_setm (Γ' := fun (seed : Int) => [.im (script : Scr), .im (ys2 : (List Int)), .im (seed : Int), .any]) hE (hf_pp hr_add (hf_c (a := (279 : Int)) rfl trivial) (hf_lenL (hΓ := rfl))) h (fun _ => rfl) (by decide : (2 : Nat) < 4) fun seed σ hE h => ?_
  refine uSeq (uFor (uList ?_))
  refine st_var hE (i := 1) rfl fun v hE => ?_
  refine it_list hE fun ja hJ => ?_
  refine st_forS (α := Int) hJ (fun (seed : Int) => [.im (script : Scr), .im (ys2 : (List Int)), .im (seed : Int), .any]) hE ⟨.inr rfl, .inr rfl, .inr rfl, .inl rfl, trivial⟩ h (fun cell s I H σ v N B hE h => ?_) (fun s I H σ hE h => ?_)
  ·
    revert hE h; revert s; intro seed hE h
    refine st_store (Γ' := [.im (script : Scr), .im (ys2 : (List Int)), .im (seed : Int), .im (cell : Int)]) hE rfl (by decide : (3 : Nat) < 4) fun σ hE => ?_
    refine st_setm (Γ' := fun (seed : Int) => [.im (script : Scr), .im (ys2 : (List Int)), .im (seed : Int), .im (cell : Int)]) hE (hf_mp (fun _ => hr_mod) (hf_c1m (fun _ => hc_int) (hf_mp (fun _ => hr_add) (hf_mm (fun _ _ => hr_add) (hf_pp hr_mul (hf_var rfl) (hf_c (a := (1009 : Int)) rfl trivial)) (hf_pp hr_mod (hf_c1p hc_int (hf_var rfl)) (hf_c (a := (1000003 : Int)) rfl trivial))) (hf_c (a := (1 : Int)) rfl trivial))) (hf_c (a := (2147483647 : Int)) rfl trivial)) h (fun _ => rfl) (by decide : (2 : Nat) < 4) fun seed σ hE h => ?_
    exact h _ _ _ (hE.weak (Γ' := [.im (script : Scr), .im (ys2 : (List Int)), .im (seed : Int), .any]) ⟨.inr rfl, .inr rfl, .inr rfl, .inl rfl, trivial⟩)
  revert hE h; revert s; intro seed hE h
  refine uRet (uLst (uCons (uLc (uList ?_))))
  refine st_var hE (i := 1) rfl fun v hE => ?_
  refine it_list hE fun ja hJ => ?_
  refine st_lcf (α := Int) (β := Int) (i := 3) hJ hE rfl h (fun ys9 I H v hE h => ?_) (fun cell I H σ ρ' Θ' Qt hE h => ?_) (fun cell I H σ ρ' Θ' Qe hE h => ?_)
  rotate_left 1
  ·
    refine st_htp hE (ht_tt (hf_pp hr_ge (hf_var rfl) (hf_is (m := (powI (10 : Int) (18 : Int))) (m' := .ok (1000000000000000000 : Int)) (hf_pp hr_pow (hf_c (a := (10 : Int)) rfl trivial) (hf_c (a := (18 : Int)) rfl trivial)) (by decide +kernel)))) ?_
    exact h _ _ hE
  ·
    refine st_push hE (hf_var rfl) fun hE => ?_
    exact h _ _ _ hE
  refine uCons ?_
  refine st_push hE (hf_var rfl) fun hE => ?_
  refine uCons ?_
  refine st_push hE (hf_c (a := (0 : Int)) rfl trivial) fun hE => ?_
  refine uNil ?_
  refine st_newSrc hE fun H v hE => ?_
  exact h _ _ _ hE.clear

theorem ok_law_draw (T : Txt Pg w K mg) : FnOk Pg w K mg base (L2N.CX Pg w) 1 T.a_law_draw T.d_law_draw ["source", "size"] (SpO K mg 1 (fun (a : Int) => [.im a]) (fun s a => m_law_draw s a) (fun b => .im b)) := by
  refine okN T.F_law_draw sc_law_draw (fun vs H Q E h => h.1) fun cdv A outer s H vs Q E hr h => ?_
  obtain ⟨hl, source, size, I, ρ, Θ, hE, h⟩ := h
  obtain ⟨v0, vs, rfl⟩ : ∃ v0 vs1, vs = v0 :: vs1 := by cases vs with | nil => simp at hl | cons v0 vs => exact ⟨v0, vs, rfl⟩
  have hE : Env K I H (start N_law_draw (v0 :: vs)) [.own (source : Src) (some v0), .im (size : Int), .any, .any, .any, .any, .any] ρ Θ := st_start hE (by rw [hl]; first | rfl | done)
  refine ⟨_, (pss_cons (ps_set (i := 2) sc_law_draw.nd rfl (.inl rfl) (pe_ix ix_list (pv 0) pe_int (fun _ _ => rfl)))
      (pss_cons (ps_if (pt_cmpR (op_neD hr.units) (pv 2) (pe_lst pa_nil) (nomark _)) (pss_cons (ps_set (i := 6) sc_law_draw.nd rfl (.inl rfl) (pe_op op_mod (pe_callTy call_int1 (by rfl) T.z_int (by decide +kernel) (pa_cons (pe_ix ix_list (pv 2) pe_int (fun _ _ => rfl)) pa_nil)) (pv 1)))
      (pss_cons (ps_asg (pe_op op_fdivW (pe_ix ix_list (pv 2) pe_int (fun _ _ => rfl)) (pv 1)) (pg_sub (pv 2) pe_int set_list))
      (pss_cons (ps_if (pt_cmpR op_eq (pe_ix ix_list (pv 2) pe_int (fun _ _ => rfl)) pe_int (nomark _)) (pss_one (ps_expr (pe_bm PySem.F.plainAttrs_list PySem.F.slot_list_pop PySem.F.type_list_pop mt_popAt (pv 2) (pa_cons pe_int pa_nil)))) pss_nil)
      (pss_one (ps_ret (pv 6)))))) pss_nil)
      (pss_cons (ps_asg (pe_op op_add (pe_ix ix_list (pv 0) pe_int (fun _ _ => rfl)) pe_int) (pg_sub (pv 0) pe_int set_list))
      (pss_cons (ps_set (i := 3) sc_law_draw.nd rfl (.inl rfl) (pe_op op_mod (pe_callTy call_int1 (by rfl) T.z_int (by decide +kernel) (pa_cons (pe_op op_add (pe_op op_add (pe_op op_mulW (pe_ix ix_list (pv 0) pe_int (fun _ _ => rfl)) pe_int) (pe_op op_mulW (pe_ix ix_list (pv 0) pe_int (fun _ _ => rfl)) pe_int)) pe_int) pa_nil)) pe_int))
      (pss_cons (ps_set (i := 4) sc_law_draw.nd rfl (.inl rfl) (pe_op op_mod (pe_callTy call_int1 (by rfl) T.z_int (by decide +kernel) (pa_cons (pe_op op_add (pe_op op_mulW (pv 3) (pv 3)) (pe_ix ix_list (pv 0) pe_int (fun _ _ => rfl))) pa_nil)) pe_int))
      (pss_cons (ps_set (i := 5) sc_law_draw.nd rfl (.inl rfl) (pe_op op_mod (pe_callTy call_int1 (by rfl) T.z_int (by decide +kernel) (pa_cons (pe_op op_add (pe_op op_mulW (pv 4) (pv 4)) (pe_ix ix_list (pv 0) pe_int (fun _ _ => rfl))) pa_nil)) pe_int))
      (pss_one (ps_ret (pe_op op_mod (pe_callTy call_int1 (by rfl) T.z_int (by decide +kernel) (pa_cons (pe_op op_fdivW (pv 5) pe_int) pa_nil)) (pv 1)))))))))), ?_⟩
  generalize start N_law_draw (v0 :: vs) = σ at hE ⊢
  change wp (m_law_draw source size) _ _ at h
  unfold m_law_draw at h
  refine uSeq ?_
  refine st_srcOpen (i := 1) hE (by decide : (1 : Nat) < 6) fun q1 σ hE => ?_
  replace hE : Env K _ _ _ [.own ((⟨q1, source.seed, source.n⟩ : SrcH) : SrcH) (some v0), .im (size : Int), .own (source.cells : (List Int)) (some (.ref q1)), .any, .any, .any, .any] _ _ := hE
  refine uSeq (uIf (uTest ?_))
  refine st_neOnil (i := 2) hE rfl (lay_ints _) (by decide) fun H v hE => ?_
  refine st_vb hE fun hE => ?_
  refine st_ite h (fun h => ?_) (fun h => ?_)
  ·
    refine uSeq ?_
    refine st_setm (Γ' := fun (digit : Int) => [.own ((⟨q1, source.seed, source.n⟩ : SrcH) : SrcH) (some v0), .im (size : Int), .own (source.cells : (List Int)) (some (.ref q1)), .any, .any, .any, .im (digit : Int)]) hE (hf_mp (fun _ => hr_mod) (hf_c1m (fun _ => hc_int) (hf_ixOp rfl (hf_c (a := (0 : Int)) rfl trivial))) (hf_var rfl)) h (fun _ => rfl) (by decide : (6 : Nat) < 7) fun digit σ hE h => ?_
    refine uSeq (uAsg ?_)
    refine st_pushm hE (hf_mp (fun _ => hr_div) (hf_ixOp rfl (hf_c (a := (0 : Int)) rfl trivial)) (hf_var rfl)) h fun t5 hE h => ?_
    refine st_setLp (i := 2) (Γ' := fun (great : (List Int)) => [.own ((⟨q1, source.seed, source.n⟩ : SrcH) : SrcH) (some v0), .im (size : Int), .own (great : (List Int)) (some (.ref q1)), .any, .any, .any, .im (digit : Int)]) hE rfl (hf_c (a := (0 : Int)) rfl trivial) h (fun _ => rfl) fun great H hE h => ?_
    refine uSeq ?_
    refine st_ifjm (fun (great : (List Int)) => [.own ((⟨q1, source.seed, source.n⟩ : SrcH) : SrcH) (some v0), .im (size : Int), .own (great : (List Int)) (some (.ref q1)), .any, .any, .any, .im (digit : Int)]) hE (ht_tt (hf_mp (fun _ => hr_eqI) (hf_ixOp rfl (hf_c (a := (0 : Int)) rfl trivial)) (hf_c (a := (0 : Int)) rfl trivial))) h (fun h => ?_) (fun h => ?_) (fun s I H σ hE h => ?_)
    ·
      refine uDrop ?_
      refine st_bmO (i := 2) hE rfl fun l6 hl_l6 => ?_
      refine uCons ?_
      refine st_push hE (hf_c (a := (0 : Int)) rfl trivial) fun hE => ?_
      refine uNil ?_
      refine st_popAt (i := 2) hE hl_l6 rfl h fun y8 H w hE h => ?_
      replace hE := hE.pop
      replace hE : Env K _ _ _ [.own ((⟨q1, source.seed, source.n⟩ : SrcH) : SrcH) (some v0), .im (size : Int), .own (y8.2 : (List Int)) (some (.ref q1)), .any, .any, .any, .im (digit : Int)] _ _ := hE
      exact h _ _ _ (hE.weak (Γ' := [.own ((⟨q1, source.seed, source.n⟩ : SrcH) : SrcH) (some v0), .im (size : Int), .own (y8.2 : (List Int)) (some (.ref q1)), .any, .any, .any, .im (digit : Int)]) ⟨.inr rfl, .inr rfl, .inr rfl, .inl rfl, .inl rfl, .inl rfl, .inr rfl, trivial⟩)
    ·
      refine uNext ?_
      exact h _ _ _ (hE.weak (Γ' := [.own ((⟨q1, source.seed, source.n⟩ : SrcH) : SrcH) (some v0), .im (size : Int), .own (great : (List Int)) (some (.ref q1)), .any, .any, .any, .im (digit : Int)]) ⟨.inr rfl, .inr rfl, .inr rfl, .inl rfl, .inl rfl, .inl rfl, .inr rfl, trivial⟩)
    revert hE h; revert s; intro great hE h
    refine uRet ?_
    refine st_push hE (hf_var rfl) fun hE => ?_
    exact h _ _ _ hE.srcClose.only0
  ·
    refine uNext (uSeq (uAsg ?_))
    refine st_push hE (hf_pp hr_add (hf_src2 (hΓ := rfl)) (hf_c (a := (1 : Int)) rfl trivial)) fun hE => ?_
    refine st_srcSet hE fun H hE => ?_
    replace hE : Env K _ _ _ [.own ((⟨q1, source.seed, (source.n + (1 : Int))⟩ : SrcH) : SrcH) (some v0), .im (size : Int), .own (source.cells : (List Int)) (some (.ref q1)), .any, .any, .any, .any] _ _ := hE
    refine uSeq ?_
    refine st_setm (Γ' := fun (first : Int) => [.own ((⟨q1, source.seed, (source.n + (1 : Int))⟩ : SrcH) : SrcH) (some v0), .im (size : Int), .own (source.cells : (List Int)) (some (.ref q1)), .im (first : Int), .any, .any, .any]) hE (hf_mp (fun _ => hr_mod) (hf_c1m (fun _ => hc_int) (hf_mp (fun _ => hr_add) (hf_mm (fun _ _ => hr_add) (hf_pp hr_mul (hf_src1 (hΓ := rfl)) (hf_c (a := (48271 : Int)) rfl trivial)) (hf_pp hr_mul (hf_src2 (hΓ := rfl)) (hf_c (a := (69621 : Int)) rfl trivial))) (hf_c (a := (11 : Int)) rfl trivial))) (hf_c (a := (2147483647 : Int)) rfl trivial)) h (fun _ => rfl) (by decide : (3 : Nat) < 7) fun first σ hE h => ?_
    refine uSeq ?_
    refine st_setm (Γ' := fun (second : Int) => [.own ((⟨q1, source.seed, (source.n + (1 : Int))⟩ : SrcH) : SrcH) (some v0), .im (size : Int), .own (source.cells : (List Int)) (some (.ref q1)), .im (first : Int), .im (second : Int), .any, .any]) hE (hf_mp (fun _ => hr_mod) (hf_c1m (fun _ => hc_int) (hf_mp (fun _ => hr_add) (hf_pp hr_mul (hf_var rfl) (hf_var rfl)) (hf_src2 (hΓ := rfl)))) (hf_c (a := (2147483399 : Int)) rfl trivial)) h (fun _ => rfl) (by decide : (4 : Nat) < 7) fun second σ hE h => ?_
    refine uSeq ?_
    refine st_setm (Γ' := fun (third : Int) => [.own ((⟨q1, source.seed, (source.n + (1 : Int))⟩ : SrcH) : SrcH) (some v0), .im (size : Int), .own (source.cells : (List Int)) (some (.ref q1)), .im (first : Int), .im (second : Int), .im (third : Int), .any]) hE (hf_mp (fun _ => hr_mod) (hf_c1m (fun _ => hc_int) (hf_mp (fun _ => hr_add) (hf_pp hr_mul (hf_var rfl) (hf_var rfl)) (hf_src1 (hΓ := rfl)))) (hf_c (a := (2147483249 : Int)) rfl trivial)) h (fun _ => rfl) (by decide : (5 : Nat) < 7) fun third σ hE h => ?_
    refine uRet ?_
    refine st_pushm hE (hf_mp (fun _ => hr_mod) (hf_c1m (fun _ => hc_int) (hf_pp hr_div (hf_var rfl) (hf_c (a := (11 : Int)) rfl trivial))) (hf_var rfl)) h fun t23 hE h => ?_
    exact h _ _ _ hE.srcClose.only0

theorem ok_law_word (T : Txt Pg w K mg) : FnOk Pg w K mg base (L2N.CX Pg w) 2 T.a_law_word T.d_law_word ["source", "low", "high"] (SpO K mg 2 (fun (a : Int × Int) => [.im a.1, .im a.2]) (fun s a => m_law_word s a.1 a.2) (fun b => .im b)) := by
  refine okN T.F_law_word sc_law_word (fun vs H Q E h => h.1) fun cdv A outer s H vs Q E hr h => ?_
  obtain ⟨hl, source, ⟨low, high⟩, I, ρ, Θ, hE, h⟩ := h
  obtain ⟨v0, vs, rfl⟩ : ∃ v0 vs1, vs = v0 :: vs1 := by cases vs with | nil => simp at hl | cons v0 vs => exact ⟨v0, vs, rfl⟩
  have hE : Env K I H (start N_law_word (v0 :: vs)) [.own (source : Src) (some v0), .im (low : Int), .im (high : Int), .any, .any, .any, .any, .any, .any, .any, .any, .any] ρ Θ := st_start hE (by rw [hl]; first | rfl | done)
  refine ⟨_, (pss_cons (ps_set (i := 3) sc_law_word.nd rfl (.inl rfl) pe_str)
      (pss_cons (ps_set (i := 4) sc_law_word.nd rfl (.inl rfl) (pe_op op_add (pv 1) (pe_callS (ok_law_draw (base := base) T) (hr.mono (by decide)) (by rfl) T.g_law_draw T.F_law_draw.kp T.b_law_draw (fun σ => L2N.passAt (L2N.takes_of rfl rfl rfl rfl) σ) (pa_cons (pv 0) (pa_cons (pe_op op_add (pe_op op_sub (pv 2) (pv 1)) pe_int) pa_nil)))))
      (pss_cons (ps_set (i := 5) sc_law_word.nd rfl (.inl rfl) (pe_ix ix_list (pe_lst (pa_cons pe_int (pa_cons pe_int (pa_cons pe_int (pa_cons pe_int (pa_cons pe_int (pa_cons pe_int pa_nil))))))) (pe_callS (ok_law_draw (base := base) T) (hr.mono (by decide)) (by rfl) T.g_law_draw T.F_law_draw.kp T.b_law_draw (fun σ => L2N.passAt (L2N.takes_of rfl rfl rfl rfl) σ) (pa_cons (pv 0) (pa_cons pe_int pa_nil))) (fun _ _ => rfl)))
      (pss_cons (ps_set (i := 6) sc_law_word.nd rfl (.inl rfl) (pe_callS (ok_law_draw (base := base) T) (hr.mono (by decide)) (by rfl) T.g_law_draw T.F_law_draw.kp T.b_law_draw (fun σ => L2N.passAt (L2N.takes_of rfl rfl rfl rfl) σ) (pa_cons (pv 0) (pa_cons pe_int pa_nil))))
      (pss_cons (ps_set (i := 7) sc_law_word.nd rfl (.inl rfl) pe_str)
      (pss_cons (ps_for (passes_of rfl) rfl (pi_range1 (by rfl) T.z_range (pa_cons pe_int pa_nil)) (pg_name (i := 8) sc_law_word.nd rfl (.inl rfl)) (pss_one (ps_if (pt_cmpR op_lt (pe_callB call_len_str (by rfl) T.z_len PySem.boot_len (pa_cons (pv 7) pa_nil)) (pv 4) (nomark _)) (pss_cons (ps_set (i := 9) sc_law_word.nd rfl (.inl rfl) (pe_callS (ok_law_draw (base := base) T) (hr.mono (by decide)) (by rfl) T.g_law_draw T.F_law_draw.kp T.b_law_draw (fun σ => L2N.passAt (L2N.takes_of rfl rfl rfl rfl) σ) (pa_cons (pv 0) (pa_cons pe_int pa_nil))))
      (pss_one (ps_if (PW.pt (pw_or (pt_cmpR op_lt (pv 9) pe_int (nomark _)) (pw_or1 (pt_cmpR op_lt (pe_callB call_len_str (by rfl) T.z_len PySem.boot_len (pa_cons (pv 7) pa_nil)) pe_int (nomark _))))) (pss_cons (ps_set (i := 10) sc_law_word.nd rfl (.inl rfl) (pe_op op_add (pv 6) (pe_callS (ok_law_draw (base := base) T) (hr.mono (by decide)) (by rfl) T.g_law_draw T.F_law_draw.kp T.b_law_draw (fun σ => L2N.passAt (L2N.takes_of rfl rfl rfl rfl) σ) (pa_cons (pv 0) (pa_cons (pv 5) pa_nil)))))
      (pss_one (ps_set (i := 7) sc_law_word.nd rfl (.inl rfl) (pe_op op_add_str (pv 7) (pe_ix ix_str (pv 3) (pe_op op_mod (pe_callTy call_int1 (by rfl) T.z_int (by decide +kernel) (pa_cons (pv 10) pa_nil)) pe_int) (fun _ _ => rfl)))))) (pss_cons (ps_set (i := 11) sc_law_word.nd rfl (.inl rfl) (pe_op op_add pe_int (pe_callS (ok_law_draw (base := base) T) (hr.mono (by decide)) (by rfl) T.g_law_draw T.F_law_draw.kp T.b_law_draw (fun σ => L2N.passAt (L2N.takes_of rfl rfl rfl rfl) σ) (pa_cons (pv 0) (pa_cons pe_int pa_nil)))))
      (pss_one (ps_if (pt_cmpR op_eq (pv 9) pe_int (nomark _)) (pss_one (ps_set (i := 7) sc_law_word.nd rfl (.inl rfl) (pe_op op_add_str (pv 7) (pe_slice sl_str (pv 7) (po_some (pe_un un_neg (pv 11))) po_none)))) (pss_one (ps_if (pt_cmpR op_eq (pv 9) pe_int (nomark _)) (pss_one (ps_set (i := 7) sc_law_word.nd rfl (.inl rfl) (pe_op op_add_str (pv 7) (pe_revS (pe_slice sl_str (pv 7) (po_some (pe_un un_neg (pv 11))) po_none))))) (pss_one (ps_set (i := 7) sc_law_word.nd rfl (.inl rfl) (pe_op op_add_str (pv 7) (pe_slice sl_str (pv 7) po_none (po_some (pv 11)))))))))))))) pss_nil)))
      (pss_one (ps_ret (pe_slice sl_str (pv 7) po_none (po_some (pv 4))))))))))), ?_⟩
  generalize start N_law_word (v0 :: vs) = σ at hE ⊢
  change wp (m_law_word source low high) _ _ at h
  unfold m_law_word at h
  refine uSeq ?_
  refine st_setm (Γ' := fun (letters : Tx) => [.own (source : Src) (some v0), .im (low : Int), .im (high : Int), .im (letters : Tx), .any, .any, .any, .any, .any, .any, .any, .any]) hE (hf_c (a := ([97, 98, 99, 100, 101, 102, 103, 104, 105, 106, 107, 108, 109, 110, 111, 112, 113, 114, 115, 116, 117, 118, 119, 120, 121, 122] : Tx)) (by decide +kernel) (by decide : (26 : Nat) ≤ line)) h (fun _ => rfl) (by decide : (3 : Nat) < 12) fun letters σ hE h => ?_
  refine uSeq (uAsg (uOp ?_))
  refine st_push hE (hf_var rfl) fun hE => ?_
  refine uCallS (uCons ?_)
  refine st_varO (i := 0) hE rfl fun va h0_0 => ?_
  refine uCons ?_
  refine st_push hE (hf_pp hr_add (hf_pp hr_sub (hf_var rfl) (hf_var rfl)) (hf_c (a := (1 : Int)) rfl trivial)) fun hE => ?_
  refine uNil ?_
  refine st_callO (i := 0) ((high - low) + (1 : Int)) rfl h0_0 hE rfl rfl h (fun e x I' H' cls d hm z => x _ H' cls d hm z.clear.nip) fun t2 I H v hE h => ?_
  refine st_op2 hE hr_add h fun t3 v hE h => ?_
  refine st_store (Γ' := [.own (t2.2 : Src) (some v0), .im (low : Int), .im (high : Int), .im (letters : Tx), .im (t3 : Int), .any, .any, .any, .any, .any, .any, .any]) hE rfl (by decide : (4 : Nat) < 12) fun σ hE => ?_
  refine uSeq (uAsg (uOp (uLst (uCons ?_))))
  refine st_push hE (hf_c (a := (2 : Int)) rfl trivial) fun hE => ?_
  refine uCons ?_
  refine st_push hE (hf_c (a := (2 : Int)) rfl trivial) fun hE => ?_
  refine uCons ?_
  refine st_push hE (hf_c (a := (3 : Int)) rfl trivial) fun hE => ?_
  refine uCons ?_
  refine st_push hE (hf_c (a := (3 : Int)) rfl trivial) fun hE => ?_
  refine uCons ?_
  refine st_push hE (hf_c (a := (4 : Int)) rfl trivial) fun hE => ?_
  refine uCons ?_
  refine st_push hE (hf_c (a := (26 : Int)) rfl trivial) fun hE => ?_
  refine uNil ?_
  refine st_lstI (α := Int) _ [(2 : Int), (2 : Int), (3 : Int), (3 : Int), (4 : Int), (26 : Int)] rfl (by decide : (6 : Nat) ≤ line) hE fun I H v hE => ?_
  refine uCallS (uCons ?_)
  refine st_varO (i := 0) hE rfl fun va h0_3 => ?_
  refine uCons ?_
  refine st_push hE (hf_c (a := (6 : Int)) rfl trivial) fun hE => ?_
  refine uNil ?_
  refine st_callO (i := 0) (6 : Int) rfl h0_3 hE rfl rfl h (fun e x I' H' cls d hm z => x _ H' cls d hm z.clear.nip) fun t5 I H v hE h => ?_
  refine st_ixL hE h fun t6 v hE h => ?_
  refine st_store (Γ' := [.own (t5.2 : Src) (some v0), .im (low : Int), .im (high : Int), .im (letters : Tx), .im (t3 : Int), .im (t6 : Int), .any, .any, .any, .any, .any, .any]) hE rfl (by decide : (5 : Nat) < 12) fun σ hE => ?_
  refine uSeq (uAsg (uCallS (uCons ?_)))
  refine st_varO (i := 0) hE rfl fun va h0_6 => ?_
  refine uCons ?_
  refine st_push hE (hf_c (a := (26 : Int)) rfl trivial) fun hE => ?_
  refine uNil ?_
  refine st_callO (i := 0) (26 : Int) rfl h0_6 hE rfl rfl h (fun e x I' H' cls d hm z => x _ H' cls d hm z.clear) fun t8 I H v hE h => ?_
  refine st_store (Γ' := [.own (t8.2 : Src) (some v0), .im (low : Int), .im (high : Int), .im (letters : Tx), .im (t3 : Int), .im (t6 : Int), .im (t8.1 : Int), .any, .any, .any, .any, .any]) hE rfl (by decide : (6 : Nat) < 12) fun σ hE => ?_
  refine uSeq ?_
  refine st_setm (Γ' := fun (word : Tx) => [.own (t8.2 : Src) (some v0), .im (low : Int), .im (high : Int), .im (letters : Tx), .im (t3 : Int), .im (t6 : Int), .im (t8.1 : Int), .im (word : Tx), .any, .any, .any, .any]) hE (hf_c (a := ([] : Tx)) (by decide +kernel) (by decide : (0 : Nat) ≤ line)) h (fun _ => rfl) (by decide : (7 : Nat) < 12) fun word σ hE h => ?_
  refine uSeq (uFor ?_)
  refine it_rng1 hE (hf_c (a := (60 : Int)) rfl trivial) h fun xs9 h J hJ => ?_
  refine st_forS (α := Int) hJ (fun (s : Src × Tx) => match s with | (source, word) => [.own (source : Src) (some v0), .im (low : Int), .im (high : Int), .im (letters : Tx), .im (t3 : Int), .im (t6 : Int), .im (t8.1 : Int), .im (word : Tx), .any, .any, .any, .any]) hE ⟨.inr rfl, .inr rfl, .inr rfl, .inr rfl, .inr rfl, .inr rfl, .inr rfl, .inr rfl, .inl rfl, .inl rfl, .inl rfl, .inl rfl, trivial⟩ h (fun turn s I H σ v N B hE h => ?_) (fun s I H σ hE h => ?_)
  ·
    obtain ⟨source, word⟩ := s
    refine st_store (Γ' := [.own (source : Src) (some v0), .im (low : Int), .im (high : Int), .im (letters : Tx), .im (t3 : Int), .im (t6 : Int), .im (t8.1 : Int), .im (word : Tx), .im (turn : Int), .any, .any, .any]) hE rfl (by decide : (8 : Nat) < 12) fun σ hE => ?_
    refine st_ifj (fun (s : Src × Tx) => match s with | (source, word) => [.own (source : Src) (some v0), .im (low : Int), .im (high : Int), .im (letters : Tx), .im (t3 : Int), .im (t6 : Int), .im (t8.1 : Int), .im (word : Tx), .im (turn : Int), .any, .any, .any]) hE (ht_tt (hf_pp hr_lt (hf_c1p hc_lenT (hf_var rfl)) (hf_var rfl))) h (fun h => ?_) (fun h => ?_) (fun s I H σ hE h => ?_)
    ·
      refine uSeq (uAsg (uCallS (uCons ?_)))
      refine st_varO (i := 0) hE rfl fun va h0_9 => ?_
      refine uCons ?_
      refine st_push hE (hf_c (a := (8 : Int)) rfl trivial) fun hE => ?_
      refine uNil ?_
      refine st_callO (i := 0) (8 : Int) rfl h0_9 hE rfl rfl h (fun e x I' H' cls d hm z => x _ H' cls d hm z.clear) fun t11 I H v hE h => ?_
      refine st_store (Γ' := [.own (t11.2 : Src) (some v0), .im (low : Int), .im (high : Int), .im (letters : Tx), .im (t3 : Int), .im (t6 : Int), .im (t8.1 : Int), .im (word : Tx), .im (turn : Int), .im (t11.1 : Int), .any, .any]) hE rfl (by decide : (9 : Nat) < 12) fun σ hE => ?_
      refine st_ifj (fun (s : Src × Tx) => match s with | (source, word) => [.own (source : Src) (some v0), .im (low : Int), .im (high : Int), .im (letters : Tx), .im (t3 : Int), .im (t6 : Int), .im (t8.1 : Int), .im (word : Tx), .im (turn : Int), .im (t11.1 : Int), .any, .any]) hE (ht_or_pp (ht_tt (hf_pp hr_lt (hf_var rfl) (hf_c (a := (5 : Int)) rfl trivial))) (ht_tt (hf_pp hr_lt (hf_c1p hc_lenT (hf_var rfl)) (hf_c (a := (2 : Int)) rfl trivial)))) h (fun h => ?_) (fun h => ?_) (fun s I H σ hE h => ?_)
      ·
        refine uSeq (uAsg (uOp ?_))
        refine st_push hE (hf_var rfl) fun hE => ?_
        refine uCallS (uCons ?_)
        refine st_varO (i := 0) hE rfl fun va h0_11 => ?_
        refine uCons ?_
        refine st_push hE (hf_var rfl) fun hE => ?_
        refine uNil ?_
        refine st_callO (i := 0) t6 rfl h0_11 hE rfl rfl h (fun e x I' H' cls d hm z => x _ H' cls d hm z.clear.nip) fun t13 I H v hE h => ?_
        refine st_op2 hE hr_add h fun t14 v hE h => ?_
        refine st_store (Γ' := [.own (t13.2 : Src) (some v0), .im (low : Int), .im (high : Int), .im (letters : Tx), .im (t3 : Int), .im (t6 : Int), .im (t8.1 : Int), .im (word : Tx), .im (turn : Int), .im (t11.1 : Int), .im (t14 : Int), .any]) hE rfl (by decide : (10 : Nat) < 12) fun σ hE => ?_
        refine st_setm (Γ' := fun (word : Tx) => [.own (t13.2 : Src) (some v0), .im (low : Int), .im (high : Int), .im (letters : Tx), .im (t3 : Int), .im (t6 : Int), .im (t8.1 : Int), .im (word : Tx), .im (turn : Int), .im (t11.1 : Int), .im (t14 : Int), .any]) hE (hf_pm (fun _ => hr_catT) (hf_var rfl) (hf_pm (fun _ => hr_getT) (hf_var rfl) (hf_pp hr_mod (hf_c1p hc_int (hf_var rfl)) (hf_c (a := (26 : Int)) rfl trivial)))) h (fun _ => rfl) (by decide : (7 : Nat) < 12) fun word σ hE h => ?_
        exact h _ _ _ (hE.weak (Γ' := [.own (t13.2 : Src) (some v0), .im (low : Int), .im (high : Int), .im (letters : Tx), .im (t3 : Int), .im (t6 : Int), .im (t8.1 : Int), .im (word : Tx), .im (turn : Int), .im (t11.1 : Int), .any, .any]) ⟨.inr rfl, .inr rfl, .inr rfl, .inr rfl, .inr rfl, .inr rfl, .inr rfl, .inr rfl, .inr rfl, .inr rfl, .inl rfl, .inl rfl, trivial⟩)
      ·
        refine uSeq (uAsg (uOp ?_))
        refine st_push hE (hf_c (a := (1 : Int)) rfl trivial) fun hE => ?_
        refine uCallS (uCons ?_)
        refine st_varO (i := 0) hE rfl fun va h0_16 => ?_
        refine uCons ?_
        refine st_push hE (hf_c (a := (8 : Int)) rfl trivial) fun hE => ?_
        refine uNil ?_
        refine st_callO (i := 0) (8 : Int) rfl h0_16 hE rfl rfl h (fun e x I' H' cls d hm z => x _ H' cls d hm z.clear.nip) fun t18 I H v hE h => ?_
        refine st_op2 hE hr_add h fun t19 v hE h => ?_
        refine st_store (Γ' := [.own (t18.2 : Src) (some v0), .im (low : Int), .im (high : Int), .im (letters : Tx), .im (t3 : Int), .im (t6 : Int), .im (t8.1 : Int), .im (word : Tx), .im (turn : Int), .im (t11.1 : Int), .any, .im (t19 : Int)]) hE rfl (by decide : (11 : Nat) < 12) fun σ hE => ?_
        refine st_ifj (fun (word : Tx) => [.own (t18.2 : Src) (some v0), .im (low : Int), .im (high : Int), .im (letters : Tx), .im (t3 : Int), .im (t6 : Int), .im (t8.1 : Int), .im (word : Tx), .im (turn : Int), .im (t11.1 : Int), .any, .im (t19 : Int)]) hE (ht_tt (hf_pp hr_eqI (hf_var rfl) (hf_c (a := (5 : Int)) rfl trivial))) h (fun h => ?_) (fun h => ?_) (fun s I H σ hE h => ?_)
        ·
          refine st_setm (Γ' := fun (word : Tx) => [.own (t18.2 : Src) (some v0), .im (low : Int), .im (high : Int), .im (letters : Tx), .im (t3 : Int), .im (t6 : Int), .im (t8.1 : Int), .im (word : Tx), .im (turn : Int), .im (t11.1 : Int), .any, .im (t19 : Int)]) hE (hf_pp hr_catT (hf_var rfl) (hf_cut_p (hf_var rfl) (ho_p (hf_up hu_neg (hf_var rfl))) ho_none)) h (fun _ => rfl) (by decide : (7 : Nat) < 12) fun word σ hE h => ?_
          exact h _ _ _ (hE.weak (Γ' := [.own (t18.2 : Src) (some v0), .im (low : Int), .im (high : Int), .im (letters : Tx), .im (t3 : Int), .im (t6 : Int), .im (t8.1 : Int), .im (word : Tx), .im (turn : Int), .im (t11.1 : Int), .any, .im (t19 : Int)]) ⟨.inr rfl, .inr rfl, .inr rfl, .inr rfl, .inr rfl, .inr rfl, .inr rfl, .inr rfl, .inr rfl, .inr rfl, .inl rfl, .inr rfl, trivial⟩)
        ·
          refine st_ifj (fun (word : Tx) => [.own (t18.2 : Src) (some v0), .im (low : Int), .im (high : Int), .im (letters : Tx), .im (t3 : Int), .im (t6 : Int), .im (t8.1 : Int), .im (word : Tx), .im (turn : Int), .im (t11.1 : Int), .any, .im (t19 : Int)]) hE (ht_tt (hf_pp hr_eqI (hf_var rfl) (hf_c (a := (6 : Int)) rfl trivial))) h (fun h => ?_) (fun h => ?_) (fun s I H σ hE h => ?_)
          ·
            refine st_setm (Γ' := fun (word : Tx) => [.own (t18.2 : Src) (some v0), .im (low : Int), .im (high : Int), .im (letters : Tx), .im (t3 : Int), .im (t6 : Int), .im (t8.1 : Int), .im (word : Tx), .im (turn : Int), .im (t11.1 : Int), .any, .im (t19 : Int)]) hE (hf_pp hr_catT (hf_var rfl) (hf_revp () (hf_cut_p (hf_var rfl) (ho_p (hf_up hu_neg (hf_var rfl))) ho_none))) h (fun _ => rfl) (by decide : (7 : Nat) < 12) fun word σ hE h => ?_
            exact h _ _ _ (hE.weak (Γ' := [.own (t18.2 : Src) (some v0), .im (low : Int), .im (high : Int), .im (letters : Tx), .im (t3 : Int), .im (t6 : Int), .im (t8.1 : Int), .im (word : Tx), .im (turn : Int), .im (t11.1 : Int), .any, .im (t19 : Int)]) ⟨.inr rfl, .inr rfl, .inr rfl, .inr rfl, .inr rfl, .inr rfl, .inr rfl, .inr rfl, .inr rfl, .inr rfl, .inl rfl, .inr rfl, trivial⟩)
          ·
            refine st_setm (Γ' := fun (word : Tx) => [.own (t18.2 : Src) (some v0), .im (low : Int), .im (high : Int), .im (letters : Tx), .im (t3 : Int), .im (t6 : Int), .im (t8.1 : Int), .im (word : Tx), .im (turn : Int), .im (t11.1 : Int), .any, .im (t19 : Int)]) hE (hf_pp hr_catT (hf_var rfl) (hf_cut_p (hf_var rfl) ho_none (ho_p (hf_var rfl)))) h (fun _ => rfl) (by decide : (7 : Nat) < 12) fun word σ hE h => ?_
            exact h _ _ _ (hE.weak (Γ' := [.own (t18.2 : Src) (some v0), .im (low : Int), .im (high : Int), .im (letters : Tx), .im (t3 : Int), .im (t6 : Int), .im (t8.1 : Int), .im (word : Tx), .im (turn : Int), .im (t11.1 : Int), .any, .im (t19 : Int)]) ⟨.inr rfl, .inr rfl, .inr rfl, .inr rfl, .inr rfl, .inr rfl, .inr rfl, .inr rfl, .inr rfl, .inr rfl, .inl rfl, .inr rfl, trivial⟩)
          revert hE h; revert s; intro word hE h
          exact h _ _ _ (hE.weak (Γ' := [.own (t18.2 : Src) (some v0), .im (low : Int), .im (high : Int), .im (letters : Tx), .im (t3 : Int), .im (t6 : Int), .im (t8.1 : Int), .im (word : Tx), .im (turn : Int), .im (t11.1 : Int), .any, .im (t19 : Int)]) ⟨.inr rfl, .inr rfl, .inr rfl, .inr rfl, .inr rfl, .inr rfl, .inr rfl, .inr rfl, .inr rfl, .inr rfl, .inl rfl, .inr rfl, trivial⟩)
        revert hE h; revert s; intro word hE h
        exact h _ _ _ (hE.weak (Γ' := [.own (t18.2 : Src) (some v0), .im (low : Int), .im (high : Int), .im (letters : Tx), .im (t3 : Int), .im (t6 : Int), .im (t8.1 : Int), .im (word : Tx), .im (turn : Int), .im (t11.1 : Int), .any, .any]) ⟨.inr rfl, .inr rfl, .inr rfl, .inr rfl, .inr rfl, .inr rfl, .inr rfl, .inr rfl, .inr rfl, .inr rfl, .inl rfl, .inl rfl, trivial⟩)
      obtain ⟨source, word⟩ := s
      exact h _ _ _ (hE.weak (Γ' := [.own (source : Src) (some v0), .im (low : Int), .im (high : Int), .im (letters : Tx), .im (t3 : Int), .im (t6 : Int), .im (t8.1 : Int), .im (word : Tx), .im (turn : Int), .any, .any, .any]) ⟨.inr rfl, .inr rfl, .inr rfl, .inr rfl, .inr rfl, .inr rfl, .inr rfl, .inr rfl, .inr rfl, .inl rfl, .inl rfl, .inl rfl, trivial⟩)
    ·
      refine uNext ?_
      exact h _ _ _ (hE.weak (Γ' := [.own (source : Src) (some v0), .im (low : Int), .im (high : Int), .im (letters : Tx), .im (t3 : Int), .im (t6 : Int), .im (t8.1 : Int), .im (word : Tx), .im (turn : Int), .any, .any, .any]) ⟨.inr rfl, .inr rfl, .inr rfl, .inr rfl, .inr rfl, .inr rfl, .inr rfl, .inr rfl, .inr rfl, .inl rfl, .inl rfl, .inl rfl, trivial⟩)
    obtain ⟨source, word⟩ := s
    exact h _ _ _ (hE.weak (Γ' := [.own (source : Src) (some v0), .im (low : Int), .im (high : Int), .im (letters : Tx), .im (t3 : Int), .im (t6 : Int), .im (t8.1 : Int), .im (word : Tx), .any, .any, .any, .any]) ⟨.inr rfl, .inr rfl, .inr rfl, .inr rfl, .inr rfl, .inr rfl, .inr rfl, .inr rfl, .inl rfl, .inl rfl, .inl rfl, .inl rfl, trivial⟩)
  obtain ⟨source, word⟩ := s
  refine uRet ?_
  refine st_push hE (hf_cut_p (hf_var rfl) ho_none (ho_p (hf_var rfl))) fun hE => ?_
  exact h _ _ _ hE.only0

theorem ok_is_letters (T : Txt Pg w K mg) : FnOk Pg w K mg base (L2N.CX Pg w) 1 T.a_is_letters T.d_is_letters ["text", "most"] (SpM K mg 2 (fun (a : Tx × Int) => [.im a.1, .im a.2]) (fun a => m_is_letters a.1 a.2) (fun b => .im b)) := by
  refine okN T.F_is_letters sc_is_letters (fun vs H Q E h => h.1) fun cdv A outer s H vs Q E hr h => ?_
  obtain ⟨hl, ⟨text, most⟩, I, ρ, Θ, hE, h⟩ := h
  have hE : Env K I H (start N_is_letters vs) [.im (text : Tx), .im (most : Int), .any] ρ Θ := st_start hE (by rw [hl]; first | rfl | done)
  refine ⟨_, (pss_cons (ps_if (pt_cmpR op_gt (pe_callB call_len_str (by rfl) T.z_len PySem.boot_len (pa_cons (pv 0) pa_nil)) (pv 1) (nomark _)) (pss_one (ps_ret pe_bl)) pss_nil)
      (pss_cons (ps_for (passes_of rfl) rfl (pi_str (pv 0)) (pg_name (i := 2) sc_is_letters.nd rfl (.inl rfl)) (pss_one (ps_if (PW.pt (pw_or (pt_cmpR op_lt_str (pv 2) pe_str (nomark _)) (pw_or1 (pt_cmpR op_gt_str (pv 2) pe_str (nomark _))))) (pss_one (ps_ret pe_bl)) pss_nil)))
      (pss_one (ps_ret pe_bl)))), ?_⟩
  generalize start N_is_letters vs = σ at hE ⊢
  change wp (m_is_letters text most) _ _ at h
  unfold m_is_letters at h
  refine uSeq ?_
  refine st_if hE (ht_tt (hf_pp hr_gt (hf_c1p hc_lenT (hf_var rfl)) (hf_var rfl))) h (fun h => ?_) (fun h => ?_)
  ·
    exact st_ret hE (hf_c (a := false) rfl trivial) h
  ·
    refine uNext (uSeq (uFor ?_))
    refine it_str hE (hf_var rfl) fun J hJ => ?_
    refine st_for (α := Tx) hJ (RetP K ρ Θ (fun b => .im b) Q) (fun (_ : Unit) => [.im (text : Tx), .im (most : Int), .any]) hE ⟨.inr rfl, .inr rfl, .inl rfl, trivial⟩ h (fun r h => h) (fun letter s I H σ v N B hE h => ?_) (fun s I H σ hE h => ?_)
    ·
      refine st_store (Γ' := [.im (text : Tx), .im (most : Int), .im (letter : Tx)]) hE rfl (by decide : (2 : Nat) < 3) fun σ hE => ?_
      refine st_if hE (ht_or_pp (ht_tt (hf_pp hr_ltT (hf_var rfl) (hf_c (a := ([97] : Tx)) (by decide +kernel) (by decide : (1 : Nat) ≤ line)))) (ht_tt (hf_pp hr_gtT (hf_var rfl) (hf_c (a := ([122] : Tx)) (by decide +kernel) (by decide : (1 : Nat) ≤ line))))) h (fun h => ?_) (fun h => ?_)
      ·
        exact st_ret hE (hf_c (a := false) rfl trivial) h
      ·
        refine uNext ?_
        exact h _ _ _ (hE.weak (Γ' := [.im (text : Tx), .im (most : Int), .any]) ⟨.inr rfl, .inr rfl, .inl rfl, trivial⟩)
    exact st_ret hE (hf_c (a := true) rfl trivial) h

theorem ok_is_word (T : Txt Pg w K mg) : FnOk Pg w K mg base (L2N.CX Pg w) 2 T.a_is_word T.d_is_word ["text"] (SpM K mg 1 (fun (a : Tx) => [.im a]) (fun a => m_is_word a) (fun b => .im b)) := by
  refine okN T.F_is_word sc_is_word (fun vs H Q E h => h.1) fun cdv A outer s H vs Q E hr h => ?_
  obtain ⟨hl, text, I, ρ, Θ, hE, h⟩ := h
  have hE : Env K I H (start N_is_word vs) [.im (text : Tx)] ρ Θ := st_start hE (by rw [hl]; first | rfl | done)
  refine ⟨_, (pss_one (ps_ret (pe_callS (ok_is_letters (base := base) T) (hr.mono (by decide)) (by rfl) T.g_is_letters T.F_is_letters.kp T.b_is_letters (fun σ => L2N.passAt (L2N.takes_of rfl rfl rfl rfl) σ) (pa_cons (pv 0) (pa_cons pe_int pa_nil))))), ?_⟩
  generalize start N_is_word vs = σ at hE ⊢
  change wp (m_is_word text) _ _ at h
  unfold m_is_word at h
  refine uRet (uCallS (uCons ?_))
  refine st_push hE (hf_var rfl) fun hE => ?_
  refine uCons ?_
  refine st_push hE (hf_c (a := (60 : Int)) rfl trivial) fun hE => ?_
  refine uNil ?_
  refine st_call (text, (60 : Int)) hE rfl rfl h (fun e x I' H' cls d hm z => x _ H' cls d hm z.clear) fun t1 I H v hE h => ?_
  exact h _ _ _ hE.clear

theorem ok_check_word (T : Txt Pg w K mg) : FnOk Pg w K mg base (L2N.CX Pg w) 3 T.a_check_word T.d_check_word ["word"] (SpM K mg 1 (fun (a : Tx) => [.im a]) (fun a => m_check_word a) (fun b => .im b)) := by
  refine okN T.F_check_word sc_check_word (fun vs H Q E h => h.1) fun cdv A outer s H vs Q E hr h => ?_
  obtain ⟨hl, word, I, ρ, Θ, hE, h⟩ := h
  have hE : Env K I H (start N_check_word vs) [.im (word : Tx)] ρ Θ := st_start hE (by rw [hl]; first | rfl | done)
  refine ⟨_, (pss_one (ps_if (pt_not (pt_val (pe_callS (ok_is_word (base := base) T) (hr.mono (by decide)) (by rfl) T.g_is_word T.F_is_word.kp T.b_is_word (fun σ => L2N.passAt (L2N.takes_of rfl rfl rfl rfl) σ) (pa_cons (pv 0) pa_nil)))) (pss_one (L2N.ps_raise rfl (L2N.takes_of rfl rfl rfl rfl) (pmk_oexN (x := "BadWord") (T.x_BadWord (base := base)).T (T.x_BadWord (base := base)).iC (T.x_BadWord (base := base)).tI (T.x_BadWord (base := base)).ini hr (T.x_BadWord (base := base)).bI passN (by rfl) (T.x_BadWord (base := base)).gC (pa_cons (pv 0) pa_nil)))) pss_nil)), ?_⟩
  generalize start N_check_word vs = σ at hE ⊢
  change wp (m_check_word word) _ _ at h
  unfold m_check_word at h
  refine uIf (uNot (uB (uCallS (uCons ?_))))
  refine st_push hE (hf_var rfl) fun hE => ?_
  refine uNil ?_
  refine st_call word hE rfl rfl h (fun e x I' H' cls d hm z => x _ H' cls d hm z.clear) fun t1 I H v hE h => ?_
  refine st_vb hE fun hE => ?_
  refine st_ite h (fun h => ?_) (fun h => ?_)
  ·
    exact st_raise (W := fun cls d _ H' => E cls d H') hE (hf_var rfl) (T.x_BadWord (base := base)).gC (fun I' H' cls d hm z => h I' H' cls d hm z.clear)
  ·
    refine uNext ?_
    exact st_retN hE h

theorem ok_check_range (T : Txt Pg w K mg) : FnOk Pg w K mg base (L2N.CX Pg w) 3 T.a_check_range T.d_check_range ["value", "low", "high"] (SpM K mg 3 (fun (a : Int × Int × Int) => [.im a.1, .im a.2.1, .im a.2.2]) (fun a => m_check_range a.1 a.2.1 a.2.2) (fun b => .im b)) := by
  refine okN T.F_check_range sc_check_range (fun vs H Q E h => h.1) fun cdv A outer s H vs Q E hr h => ?_
  obtain ⟨hl, ⟨value, low, high⟩, I, ρ, Θ, hE, h⟩ := h
  have hE : Env K I H (start N_check_range vs) [.im (value : Int), .im (low : Int), .im (high : Int)] ρ Θ := st_start hE (by rw [hl]; first | rfl | done)
  refine ⟨_, (pss_one (ps_if (PW.pt (pw_or (pt_cmpR op_lt (pv 0) (pv 1) (nomark _)) (pw_or1 (pt_cmpR op_gt (pv 0) (pv 2) (nomark _))))) (pss_one (L2N.ps_raise rfl (L2N.takes_of rfl rfl rfl rfl) (pmk_oexN (x := "OutOfBounds") (T.x_OutOfBounds (base := base)).T (T.x_OutOfBounds (base := base)).iC (T.x_OutOfBounds (base := base)).tI (T.x_OutOfBounds (base := base)).ini hr (T.x_OutOfBounds (base := base)).bI passN (by rfl) (T.x_OutOfBounds (base := base)).gC (pa_cons (pv 0) pa_nil)))) pss_nil)), ?_⟩
  generalize start N_check_range vs = σ at hE ⊢
  change wp (m_check_range value low high) _ _ at h
  unfold m_check_range at h
  refine st_if hE (ht_or_pp (ht_tt (hf_pp hr_lt (hf_var rfl) (hf_var rfl))) (ht_tt (hf_pp hr_gt (hf_var rfl) (hf_var rfl)))) h (fun h => ?_) (fun h => ?_)
  ·
    exact st_raise (W := fun cls d _ H' => E cls d H') hE (hf_var rfl) (T.x_OutOfBounds (base := base)).gC (fun I' H' cls d hm z => h I' H' cls d hm z.clear)
  ·
    refine uNext ?_
    exact st_retN hE h

theorem ok_shortest_local (T : Txt Pg w K mg) : FnOk Pg w K mg base (L2N.CX Pg w) 1 T.a_shortest_local T.d_shortest_local ["word", "cut"] (SpM K mg 2 (fun (a : Tx × Int) => [.im a.1, .im a.2]) (fun a => m_shortest_local a.1 a.2) (fun b => .im b)) := by
  refine okN T.F_shortest_local sc_shortest_local (fun vs H Q E h => h.1) fun cdv A outer s H vs Q E hr h => ?_
  obtain ⟨hl, ⟨word, cut⟩, I, ρ, Θ, hE, h⟩ := h
  have hE : Env K I H (start N_shortest_local vs) [.im (word : Tx), .im (cut : Int), .any, .any, .any] ρ Θ := st_start hE (by rw [hl]; first | rfl | done)
  refine ⟨_, (pss_cons (ps_for (passes_of rfl) rfl (pi_range2 (by rfl) T.z_range (pa_cons pe_int (pa_cons (pe_callB call_len_str (by rfl) T.z_len PySem.boot_len (pa_cons (pv 0) pa_nil)) pa_nil))) (pg_name (i := 2) sc_shortest_local.nd rfl (.inl rfl)) (pss_cons (ps_set (i := 3) sc_shortest_local.nd rfl (.inl rfl) (pe_callB (call_max2 rfl) (by rfl) T.z_max (by decide +kernel) (pa_cons pe_int (pa_cons (pe_op op_sub (pv 1) (pv 2)) pa_nil))))
      (pss_cons (ps_set (i := 4) sc_shortest_local.nd rfl (.inl rfl) (pe_callB (call_min2 rfl) (by rfl) T.z_min (by decide +kernel) (pa_cons (pv 1) (pa_cons (pe_op op_sub (pe_callB call_len_str (by rfl) T.z_len PySem.boot_len (pa_cons (pv 0) pa_nil)) (pv 2)) pa_nil))))
      (pss_one (ps_if (pt_cmpR op_eq (pe_slice sl_str (pv 0) (po_some (pv 3)) (po_some (pv 4))) (pe_slice sl_str (pv 0) (po_some (pe_op op_add (pv 3) (pv 2))) (po_some (pe_op op_add (pv 4) (pv 2)))) (nomark _)) (pss_one (ps_ret (pv 2))) pss_nil)))))
      (pss_one (ps_ret (pe_callB call_len_str (by rfl) T.z_len PySem.boot_len (pa_cons (pv 0) pa_nil))))), ?_⟩
  generalize start N_shortest_local vs = σ at hE ⊢
  change wp (m_shortest_local word cut) _ _ at h
  unfold m_shortest_local at h
  refine uSeq (uFor ?_)
  refine it_rng2 hE (hf_c (a := (1 : Int)) rfl trivial) (hf_c1p hc_lenT (hf_var rfl)) h fun xs1 h J hJ => ?_
  refine st_for (α := Int) hJ (RetP K ρ Θ (fun b => .im b) Q) (fun (_ : Unit) => [.im (word : Tx), .im (cut : Int), .any, .any, .any]) hE ⟨.inr rfl, .inr rfl, .inl rfl, .inl rfl, .inl rfl, trivial⟩ h (fun r h => h) (fun period s I H σ v N B hE h => ?_) (fun s I H σ hE h => ?_)
  ·
    refine st_store (Γ' := [.im (word : Tx), .im (cut : Int), .im (period : Int), .any, .any]) hE rfl (by decide : (2 : Nat) < 5) fun σ hE => ?_
    refine uSeq ?_
    refine st_setm (Γ' := fun (first : Int) => [.im (word : Tx), .im (cut : Int), .im (period : Int), .im (first : Int), .any]) hE (hf_c2p hc_max (hf_c (a := (0 : Int)) rfl trivial) (hf_pp hr_sub (hf_var rfl) (hf_var rfl))) h (fun _ => rfl) (by decide : (3 : Nat) < 5) fun first σ hE h => ?_
    refine uSeq ?_
    refine st_setm (Γ' := fun (last : Int) => [.im (word : Tx), .im (cut : Int), .im (period : Int), .im (first : Int), .im (last : Int)]) hE (hf_c2p hc_min (hf_var rfl) (hf_pp hr_sub (hf_c1p hc_lenT (hf_var rfl)) (hf_var rfl))) h (fun _ => rfl) (by decide : (4 : Nat) < 5) fun last σ hE h => ?_
    refine st_if hE (ht_tt (hf_pp hr_eqT (hf_cut_p (hf_var rfl) (ho_p (hf_var rfl)) (ho_p (hf_var rfl))) (hf_cut_p (hf_var rfl) (ho_p (hf_pp hr_add (hf_var rfl) (hf_var rfl))) (ho_p (hf_pp hr_add (hf_var rfl) (hf_var rfl)))))) h (fun h => ?_) (fun h => ?_)
    ·
      exact st_ret hE (hf_var rfl) h
    ·
      refine uNext ?_
      exact h _ _ _ (hE.weak (Γ' := [.im (word : Tx), .im (cut : Int), .any, .any, .any]) ⟨.inr rfl, .inr rfl, .inl rfl, .inl rfl, .inl rfl, trivial⟩)
  exact st_ret hE (hf_c1p hc_lenT (hf_var rfl)) h

theorem ok_local_period (T : Txt Pg w K mg) : FnOk Pg w K mg base (L2N.CX Pg w) 4 T.a_local_period T.d_local_period ["word", "cut"] (SpM K mg 2 (fun (a : Tx × Int) => [.im a.1, .im a.2]) (fun a => m_local_period a.1 a.2) (fun b => .im b)) := by
  refine okN T.F_local_period sc_local_period (fun vs H Q E h => h.1) fun cdv A outer s H vs Q E hr h => ?_
  obtain ⟨hl, ⟨word, cut⟩, I, ρ, Θ, hE, h⟩ := h
  have hE : Env K I H (start N_local_period vs) [.im (word : Tx), .im (cut : Int)] ρ Θ := st_start hE (by rw [hl]; first | rfl | done)
  refine ⟨_, (pss_cons (ps_expr (pe_callS (ok_check_word (base := base) T) (hr.mono (by decide)) (by rfl) T.g_check_word T.F_check_word.kp T.b_check_word (fun σ => L2N.passAt (L2N.takes_of rfl rfl rfl rfl) σ) (pa_cons (pv 0) pa_nil)))
      (pss_cons (ps_expr (pe_callS (ok_check_range (base := base) T) (hr.mono (by decide)) (by rfl) T.g_check_range T.F_check_range.kp T.b_check_range (fun σ => L2N.passAt (L2N.takes_of rfl rfl rfl rfl) σ) (pa_cons (pv 1) (pa_cons pe_int (pa_cons (pe_op op_sub (pe_callB call_len_str (by rfl) T.z_len PySem.boot_len (pa_cons (pv 0) pa_nil)) pe_int) pa_nil)))))
      (pss_one (ps_ret (pe_callS (ok_shortest_local (base := base) T) (hr.mono (by decide)) (by rfl) T.g_shortest_local T.F_shortest_local.kp T.b_shortest_local (fun σ => L2N.passAt (L2N.takes_of rfl rfl rfl rfl) σ) (pa_cons (pv 0) (pa_cons (pv 1) pa_nil))))))), ?_⟩
  generalize start N_local_period vs = σ at hE ⊢
  change wp (m_local_period word cut) _ _ at h
  unfold m_local_period at h
  refine uSeq (uDrop (uCallS (uCons ?_)))
  refine st_push hE (hf_var rfl) fun hE => ?_
  refine uNil ?_
  refine st_call word hE rfl rfl h (fun e x I' H' cls d hm z => x _ H' cls d hm z.clear) fun t1 I H v hE h => ?_
  have hE := hE.pop
  refine uSeq (uDrop (uCallS (uCons ?_)))
  refine st_push hE (hf_var rfl) fun hE => ?_
  refine uCons ?_
  refine st_push hE (hf_c (a := (1 : Int)) rfl trivial) fun hE => ?_
  refine uCons ?_
  refine st_push hE (hf_pp hr_sub (hf_c1p hc_lenT (hf_var rfl)) (hf_c (a := (1 : Int)) rfl trivial)) fun hE => ?_
  refine uNil ?_
  refine st_call (cut, (1 : Int), (((word.length : Nat) : Int) - (1 : Int))) hE rfl rfl h (fun e x I' H' cls d hm z => x _ H' cls d hm z.clear) fun t2 I H v hE h => ?_
  have hE := hE.pop
  refine uRet (uCallS (uCons ?_))
  refine st_push hE (hf_var rfl) fun hE => ?_
  refine uCons ?_
  refine st_push hE (hf_var rfl) fun hE => ?_
  refine uNil ?_
  refine st_call (word, cut) hE rfl rfl h (fun e x I' H' cls d hm z => x _ H' cls d hm z.clear) fun t3 I H v hE h => ?_
  exact h _ _ _ hE.clear

theorem ok_law_whole (T : Txt Pg w K mg) : FnOk Pg w K mg base (L2N.CX Pg w) 1 T.a_law_whole T.d_law_whole ["thing"] (SpM K mg 1 (fun (a : Int) => [.im a]) (fun a => m_law_whole a) (fun b => .im b)) := by
  refine okN T.F_law_whole sc_law_whole (fun vs H Q E h => h.1) fun cdv A outer s H vs Q E hr h => ?_
  obtain ⟨hl, thing, I, ρ, Θ, hE, h⟩ := h
  have hE : Env K I H (start N_law_whole vs) [.im (thing : Int)] ρ Θ := st_start hE (by rw [hl]; first | rfl | done)
  refine ⟨_, (pss_one (ps_ret (pe_and (pe_callB call_isi (by rfl) T.z_isinstance (by decide +kernel) (pa_cons (pv 0) (pa_cons (pe_bltn (v := .ty "int") (by rfl) T.z_int (by decide +kernel) rfl) pa_nil))) (pe_one (pe_not (pe_callB call_isi (by rfl) T.z_isinstance (by decide +kernel) (pa_cons (pv 0) (pa_cons (pe_bltn (v := .ty "bool") (by rfl) T.z_bool (by decide +kernel) rfl) pa_nil)))))))), ?_⟩
  generalize start N_law_whole vs = σ at hE ⊢
  change wp (m_law_whole thing) _ _ at h
  unfold m_law_whole at h
  exact st_ret hE (hf_and_pp (hf_isI rfl (fun _ => rfl)) (hf_not_p (hf_isI rfl (fun _ => rfl)))) h

theorem okH_law_whole (T : Txt Pg w K mg) : L2H.FnH Pg w K mg base (L2N.CX Pg w) 1 T.a_law_whole T.d_law_whole ["thing"] (SpM K mg 1 (fun (a : Int) => [.im a]) (fun a => m_law_whole a) (fun b => .im b)) := by
  refine okH T.F_law_whole sc_law_whole (fun vs H Q E h => h.1) fun cdv A outer s H vs Q E p hot hr h => ?_
  obtain ⟨hl, thing, I, ρ, Θ, hE, h⟩ := h
  have hE : Env K I H (start N_law_whole vs) [.im (thing : Int)] ρ Θ := st_start hE (by rw [hl]; first | rfl | done)
  refine ⟨_, (pss_one (ps_ret (pe_and (pe_callB call_isi (by rfl) T.z_isinstance (by decide +kernel) (pa_cons (pv 0) (pa_cons (pe_bltn (v := .ty "int") (by rfl) T.z_int (by decide +kernel) rfl) pa_nil))) (pe_one (pe_not (pe_callB call_isi (by rfl) T.z_isinstance (by decide +kernel) (pa_cons (pv 0) (pa_cons (pe_bltn (v := .ty "bool") (by rfl) T.z_bool (by decide +kernel) rfl) pa_nil)))))))), ?_⟩
  generalize start N_law_whole vs = σ at hE ⊢
  change wp (m_law_whole thing) _ _ at h
  unfold m_law_whole at h
  exact st_ret hE (hf_and_pp (hf_isI rfl (fun _ => rfl)) (hf_not_p (hf_isI rfl (fun _ => rfl)))) h

theorem ok_law_outside (T : Txt Pg w K mg) : FnOk Pg w K mg base (L2N.CX Pg w) 5 T.a_law_outside T.d_law_outside ["word", "cut"] (SpM K mg 2 (fun (a : Tx × Int) => [.im a.1, .im a.2]) (fun a => m_law_outside a.1 a.2) (fun b => .im b)) := by
  refine okN T.F_law_outside sc_law_outside (fun vs H Q E h => h.1) fun cdv A outer s H vs Q E hr h => ?_
  obtain ⟨hl, ⟨word, cut⟩, I, ρ, Θ, hE, h⟩ := h
  have hE : Env K I H (start N_law_outside vs) [.im (word : Tx), .im (cut : Int), .any] ρ Θ := st_start hE (by rw [hl]; first | rfl | done)
  refine ⟨_, (pss_cons (ps_tryG (i := 2) rfl rfl sc_law_outside.nd rfl rfl ⟨rfl, by decide, .inl T.gC_WordError⟩ (fun W pn xe tk hp => (pss_one (ps_expr (pe_callKS0 (ok_local_period (base := base) T) (hr.mono (by decide)) (by rfl) T.g_local_period T.F_local_period.kp T.k_local_period_0 (fun σ => L2N.passAt tk σ) (pk_cons (pv 0) (pk_cons (pv 1) pk_nil)))))) (fun a oe cls d pn hz hf => (pss_cons (ps_if (PW.pt (pw_or (pt_not (pt_val (pe_callB (call_isX hz.zc hf) (by rfl) T.z_isinstance (by decide +kernel) (pa_cons (pv 2) (pa_cons (pe_glob (v := .ref T.C_OutOfBounds) (by rfl) T.gC_OutOfBounds rfl) pa_nil))))) (pw_or (pt_val (pe_callB (call_isX hz.zc hf) (by rfl) T.z_isinstance (by decide +kernel) (pa_cons (pv 2) (pa_cons (pe_glob (v := .ref T.C_BadWord) (by rfl) T.gC_BadWord rfl) pa_nil)))) (pw_or1 (pt_val (pe_callB (call_isX hz.zc hf) (by rfl) T.z_isinstance (by decide +kernel) (pa_cons (pv 2) (pa_cons (pe_glob (v := .ref T.C_TooMany) (by rfl) T.gC_TooMany rfl) pa_nil)))))))) (pss_one (ps_ret pe_bl)) pss_nil)
      (pss_one (ps_ret (pe_and (L2H.pe_callH (okH_law_whole (base := base) T) (roomH_mk (hr.mono (by decide)) _) (hot_suite hz hf) (by rfl) T.g_law_whole T.F_law_whole.kp T.b_law_whole (fun σ => L2N.passAt takesN0 σ) (pa_cons (pe_xf (T.x_OutOfBounds (base := base)).xf (T.x_OutOfBounds (base := base)).no hz.zc hf (pv 2)) pa_nil)) (pe_one (pe_cmpR op_eq (pe_xf (T.x_OutOfBounds (base := base)).xf (T.x_OutOfBounds (base := base)).no hz.zc hf (pv 2)) (pv 1) (nomark _)))))))))
      (pss_one (ps_ret pe_bl))), ?_⟩
  generalize start N_law_outside vs = σ at hE ⊢
  change wp (m_law_outside word cut) _ _ at h
  unfold m_law_outside at h
  refine uSeq ?_
  refine st_try (mg := mg) (i := 2) [.im (word : Tx), .im (cut : Int), .any] (RetP K ρ Θ (fun b => .im b) Q) (fun (_ : Unit) => [.im (word : Tx), .im (cut : Int), .any]) hE (by decide : (2 : Nat) < 3) h (fun r h => h) (fun s I H σ hE h => ?_) (fun e h => ?_) (fun xe1 h I H σ xa1 xd1 xc1 xm1 hE => ?_) (fun hC1 h => ?_)
  rotate_left 1
  ·
    exact exm_all (kn_WordError_ok T (wp_knT h))
  ·
    replace h := wp_kn h
    replace hE : Env K _ _ _ [.im (word : Tx), .im (cut : Int), .im ((⟨xa1, xd1, xe1⟩ : ExV) : ExV)] _ _ := hE
    refine uSeq ?_
    refine st_ifm hE (ht_or_m (ht_not_m (ht_B (hf_isX (hΓ := rfl) (fun _ h => h) (is_OutOfBounds_ok T xm1)))) (ht_or_m (ht_B (hf_isX (hΓ := rfl) (fun _ h => h) (is_BadWord_ok T xm1))) (ht_B (hf_isX (hΓ := rfl) (fun _ h => h) (is_TooMany_ok T xm1))))) h (fun h => ?_) (fun h => ?_)
    ·
      exact st_ret hE (hf_c (a := false) rfl trivial) h
    ·
      refine uNext (uRet (uAndV (uCallS (uCons ?_))))
      refine st_pushm hE (hf_fldI (hΓ := rfl) xm1 (T.x_OutOfBounds (base := base)).gC) h fun t6 hE h => ?_
      refine uNil ?_
      refine st_callX t6 hE rfl rfl h  fun t7 I H v hE h => ?_
      refine st_vb hE fun hE => ?_
      refine st_ite h (fun h => ?_) (fun h => ?_)
      ·
        refine st_pushm hE (hf_mp (fun _ => hr_eqI) (hf_fldI (hΓ := rfl) xm1 (T.x_OutOfBounds (base := base)).gC) (hf_var rfl)) h fun t10 hE h => ?_
        exact h _ _ _ hE.clear
      ·
        exact h _ _ _ ((hE.pushS (α := Bool) (a := false) trivial).clear)
  ·
    refine uDrop (uCallKS (uNil (uCons ?_)))
    refine st_push hE (hf_var rfl) fun hE => ?_
    refine uCons ?_
    refine st_push hE (hf_var rfl) fun hE => ?_
    refine uNil ?_
    refine ⟨rfl, rfl, ?_⟩
    refine st_call (word, cut) hE rfl rfl h (fun e x I' H' cls d hm z => hC1 e x _ _ H' cls d hm (Env.weak (Γ' := [.im (word : Tx), .im (cut : Int), .any]) z ⟨.inr rfl, .inr rfl, .inl rfl, trivial⟩)) fun t2 I H v hE h => ?_
    have hE := hE.pop
    exact h _ _ _ (hE.weak (Γ' := [.im (word : Tx), .im (cut : Int), .any]) ⟨.inr rfl, .inr rfl, .inl rfl, trivial⟩)
  exact st_ret hE (hf_c (a := false) rfl trivial) h

theorem ok_shortest_period (T : Txt Pg w K mg) : FnOk Pg w K mg base (L2N.CX Pg w) 1 T.a_shortest_period T.d_shortest_period ["word"] (SpM K mg 1 (fun (a : Tx) => [.im a]) (fun a => m_shortest_period a) (fun b => .im b)) := by
  refine okN T.F_shortest_period sc_shortest_period (fun vs H Q E h => h.1) fun cdv A outer s H vs Q E hr h => ?_
  obtain ⟨hl, word, I, ρ, Θ, hE, h⟩ := h
  have hE : Env K I H (start N_shortest_period vs) [.im (word : Tx), .any] ρ Θ := st_start hE (by rw [hl]; first | rfl | done)
  refine ⟨_, (pss_cons (ps_for (passes_of rfl) rfl (pi_range2 (by rfl) T.z_range (pa_cons pe_int (pa_cons (pe_callB call_len_str (by rfl) T.z_len PySem.boot_len (pa_cons (pv 0) pa_nil)) pa_nil))) (pg_name (i := 1) sc_shortest_period.nd rfl (.inl rfl)) (pss_one (ps_if (pt_cmpR op_eq (pe_slice sl_str (pv 0) (po_some (pv 1)) po_none) (pe_slice sl_str (pv 0) po_none (po_some (pe_op op_sub (pe_callB call_len_str (by rfl) T.z_len PySem.boot_len (pa_cons (pv 0) pa_nil)) (pv 1)))) (nomark _)) (pss_one (ps_ret (pv 1))) pss_nil)))
      (pss_one (ps_ret (pe_callB (call_max2 rfl) (by rfl) T.z_max (by decide +kernel) (pa_cons pe_int (pa_cons (pe_callB call_len_str (by rfl) T.z_len PySem.boot_len (pa_cons (pv 0) pa_nil)) pa_nil)))))), ?_⟩
  generalize start N_shortest_period vs = σ at hE ⊢
  change wp (m_shortest_period word) _ _ at h
  unfold m_shortest_period at h
  refine uSeq (uFor ?_)
  refine it_rng2 hE (hf_c (a := (1 : Int)) rfl trivial) (hf_c1p hc_lenT (hf_var rfl)) h fun xs1 h J hJ => ?_
  refine st_for (α := Int) hJ (RetP K ρ Θ (fun b => .im b) Q) (fun (_ : Unit) => [.im (word : Tx), .any]) hE ⟨.inr rfl, .inl rfl, trivial⟩ h (fun r h => h) (fun period s I H σ v N B hE h => ?_) (fun s I H σ hE h => ?_)
  ·
    refine st_store (Γ' := [.im (word : Tx), .im (period : Int)]) hE rfl (by decide : (1 : Nat) < 2) fun σ hE => ?_
    refine st_if hE (ht_tt (hf_pp hr_eqT (hf_cut_p (hf_var rfl) (ho_p (hf_var rfl)) ho_none) (hf_cut_p (hf_var rfl) ho_none (ho_p (hf_pp hr_sub (hf_c1p hc_lenT (hf_var rfl)) (hf_var rfl)))))) h (fun h => ?_) (fun h => ?_)
    ·
      exact st_ret hE (hf_var rfl) h
    ·
      refine uNext ?_
      exact h _ _ _ (hE.weak (Γ' := [.im (word : Tx), .any]) ⟨.inr rfl, .inl rfl, trivial⟩)
  exact st_ret hE (hf_c2p hc_max (hf_c (a := (1 : Int)) rfl trivial) (hf_c1p hc_lenT (hf_var rfl))) h

theorem ok_least_period (T : Txt Pg w K mg) : FnOk Pg w K mg base (L2N.CX Pg w) 4 T.a_least_period T.d_least_period ["word"] (SpM K mg 1 (fun (a : Tx) => [.im a]) (fun a => m_least_period a) (fun b => .im b)) := by
  refine okN T.F_least_period sc_least_period (fun vs H Q E h => h.1) fun cdv A outer s H vs Q E hr h => ?_
  obtain ⟨hl, word, I, ρ, Θ, hE, h⟩ := h
  have hE : Env K I H (start N_least_period vs) [.im (word : Tx)] ρ Θ := st_start hE (by rw [hl]; first | rfl | done)
  refine ⟨_, (pss_cons (ps_expr (pe_callS (ok_check_word (base := base) T) (hr.mono (by decide)) (by rfl) T.g_check_word T.F_check_word.kp T.b_check_word (fun σ => L2N.passAt (L2N.takes_of rfl rfl rfl rfl) σ) (pa_cons (pv 0) pa_nil)))
      (pss_one (ps_ret (pe_callS (ok_shortest_period (base := base) T) (hr.mono (by decide)) (by rfl) T.g_shortest_period T.F_shortest_period.kp T.b_shortest_period (fun σ => L2N.passAt (L2N.takes_of rfl rfl rfl rfl) σ) (pa_cons (pv 0) pa_nil))))), ?_⟩
  generalize start N_least_period vs = σ at hE ⊢
  change wp (m_least_period word) _ _ at h
  unfold m_least_period at h
  refine uSeq (uDrop (uCallS (uCons ?_)))
  refine st_push hE (hf_var rfl) fun hE => ?_
  refine uNil ?_
  refine st_call word hE rfl rfl h (fun e x I' H' cls d hm z => x _ H' cls d hm z.clear) fun t1 I H v hE h => ?_
  have hE := hE.pop
  refine uRet (uCallS (uCons ?_))
  refine st_push hE (hf_var rfl) fun hE => ?_
  refine uNil ?_
  refine st_call word hE rfl rfl h (fun e x I' H' cls d hm z => x _ H' cls d hm z.clear) fun t2 I H v hE h => ?_
  exact h _ _ _ hE.clear

theorem ok_critical_cuts (T : Txt Pg w K mg) : FnOk Pg w K mg base (L2N.CX Pg w) 4 T.a_critical_cuts T.d_critical_cuts ["word"] (SpM K mg 1 (fun (a : Tx) => [.im a]) (fun a => m_critical_cuts a) (fun b => .own b)) := by
  refine okN T.F_critical_cuts sc_critical_cuts (fun vs H Q E h => h.1) fun cdv A outer s H vs Q E hr h => ?_
  obtain ⟨hl, word, I, ρ, Θ, hE, h⟩ := h
  have hE : Env K I H (start N_critical_cuts vs) [.im (word : Tx), .any, .any] ρ Θ := st_start hE (by rw [hl]; first | rfl | done)
  refine ⟨_, (pss_cons (ps_expr (pe_callS (ok_check_word (base := base) T) (hr.mono (by decide)) (by rfl) T.g_check_word T.F_check_word.kp T.b_check_word (fun σ => L2N.passAt (L2N.takes_of rfl rfl rfl rfl) σ) (pa_cons (pv 0) pa_nil)))
      (pss_cons (ps_set (i := 1) sc_critical_cuts.nd rfl (.inr rfl) (pe_callS (ok_shortest_period (base := base) T) (hr.mono (by decide)) (by rfl) T.g_shortest_period T.F_shortest_period.kp T.b_shortest_period (fun σ => L2N.passAt (L2N.takes_of rfl rfl rfl rfl) σ) (pa_cons (pv 0) pa_nil)))
      (pss_one (ps_ret (pe_lc (own := [("cut", 2)]) (g := gName 2) (by rfl) sc_critical_cuts.nd (pi_range2 (by rfl) T.z_range (pa_cons pe_int (pa_cons (pe_callB call_len_str (by rfl) T.z_len PySem.boot_len (pa_cons (pv 0) pa_nil)) pa_nil))) (blkOk_by (N := N_critical_cuts) (sc := defScope s_critical_cuts) (by decide +kernel)) (fun _ _ _ _ _ => pg_name (i := 2) sc_critical_cuts.nd rfl (.inl rfl)) (fun _ _ _ _ _ => pts_one (pt_cmpR op_eq (pe_callS (ok_shortest_local (base := base) T) (hr.mono (by decide)) (by rfl) T.g_shortest_local T.F_shortest_local.kp T.b_shortest_local (fun σ => L2N.passAt takesN0 σ) (pa_cons (pv 0) (pa_cons (pv 2) pa_nil))) (pv 1) (nomark _))) (fun _ _ _ _ _ => (pv 2))))))), ?_⟩
  generalize start N_critical_cuts vs = σ at hE ⊢
  change wp (m_critical_cuts word) _ _ at h
  unfold m_critical_cuts at h
  refine uSeq (uDrop (uCallS (uCons ?_)))
  refine st_push hE (hf_var rfl) fun hE => ?_
  refine uNil ?_
  refine st_call word hE rfl rfl h (fun e x I' H' cls d hm z => x _ H' cls d hm z.clear) fun t1 I H v hE h => ?_
  have hE := hE.pop
  refine uSeq (uAsg (uCallS (uCons ?_)))
  refine st_push hE (hf_var rfl) fun hE => ?_
  refine uNil ?_
  refine st_call word hE rfl rfl h (fun e x I' H' cls d hm z => x _ H' cls d hm z.clear) fun t2 I H v hE h => ?_
  refine st_store (Γ' := [.im (word : Tx), .im (t2 : Int), .any]) hE rfl (by decide : (1 : Nat) < 3) fun σ hE => ?_
  refine uRet (uLc ?_)
  refine it_rng2 hE (hf_c (a := (1 : Int)) rfl trivial) (hf_c1p hc_lenT (hf_var rfl)) h fun xs3 h J hJ => ?_
  refine st_lcf (α := Int) (β := Int) (i := 2) hJ hE rfl h (fun ys5 I H v hE h => ?_) (fun cut I H σ ρ' Θ' Qt hE h => ?_) (fun cut I H σ ρ' Θ' Qe hE h => ?_)
  rotate_left 1
  ·
    refine uTest (uOp (uCallS (uCons ?_)))
    refine st_push hE (hf_var rfl) fun hE => ?_
    refine uCons ?_
    refine st_push hE (hf_var rfl) fun hE => ?_
    refine uNil ?_
    refine st_callX (word, cut) hE rfl rfl h  fun t4 I H v hE h => ?_
    refine st_push hE (hf_var rfl) fun hE => ?_
    refine st_op2p hE hr_eqI fun v hE => ?_
    refine st_vb hE fun hE => ?_
    exact h _ _ hE
  ·
    refine st_push hE (hf_var rfl) fun hE => ?_
    exact h _ _ _ hE
  exact h _ _ _ hE.clear

theorem ok_law_refused (T : Txt Pg w K mg) : FnOk Pg w K mg base (L2N.CX Pg w) 5 T.a_law_refused T.d_law_refused ["text", "which", "cut"] (SpM K mg 3 (fun (a : Tx × Int × Int) => [.im a.1, .im a.2.1, .im a.2.2]) (fun a => m_law_refused a.1 a.2.1 a.2.2) (fun b => .im b)) := by
  refine okN T.F_law_refused sc_law_refused (fun vs H Q E h => h.1) fun cdv A outer s H vs Q E hr h => ?_
  obtain ⟨hl, ⟨text, which, cut⟩, I, ρ, Θ, hE, h⟩ := h
  have hE : Env K I H (start N_law_refused vs) [.im (text : Tx), .im (which : Int), .im (cut : Int), .any] ρ Θ := st_start hE (by rw [hl]; first | rfl | done)
  refine ⟨_, (pss_cons (ps_tryG (i := 3) rfl rfl sc_law_refused.nd rfl rfl ⟨rfl, by decide, .inl T.gC_WordError⟩ (fun W pn xe tk hp => (pss_one (ps_if (pt_cmpR op_eq (pv 1) pe_int (nomark _)) (pss_one (ps_expr (pe_callS (ok_least_period (base := base) T) (hr.mono (by decide)) (by rfl) T.g_least_period T.F_least_period.kp T.b_least_period (fun σ => L2N.passAt tk σ) (pa_cons (pv 0) pa_nil)))) (pss_one (ps_if (pt_cmpR op_eq (pv 1) pe_int (nomark _)) (pss_one (ps_expr (pe_callS (ok_local_period (base := base) T) (hr.mono (by decide)) (by rfl) T.g_local_period T.F_local_period.kp T.b_local_period (fun σ => L2N.passAt tk σ) (pa_cons (pv 0) (pa_cons (pv 2) pa_nil))))) (pss_one (ps_expr (pe_callS (ok_critical_cuts (base := base) T) (hr.mono (by decide)) (by rfl) T.g_critical_cuts T.F_critical_cuts.kp T.b_critical_cuts (fun σ => L2N.passAt tk σ) (pa_cons (pv 0) pa_nil))))))))) (fun a oe cls d pn hz hf => (pss_cons (ps_if (PW.pt (pw_or (pt_not (pt_val (pe_callB (call_isX hz.zc hf) (by rfl) T.z_isinstance (by decide +kernel) (pa_cons (pv 3) (pa_cons (pe_glob (v := .ref T.C_BadWord) (by rfl) T.gC_BadWord rfl) pa_nil))))) (pw_or (pt_val (pe_callB (call_isX hz.zc hf) (by rfl) T.z_isinstance (by decide +kernel) (pa_cons (pv 3) (pa_cons (pe_glob (v := .ref T.C_OutOfBounds) (by rfl) T.gC_OutOfBounds rfl) pa_nil)))) (pw_or1 (pt_val (pe_callB (call_isX hz.zc hf) (by rfl) T.z_isinstance (by decide +kernel) (pa_cons (pv 3) (pa_cons (pe_glob (v := .ref T.C_TooMany) (by rfl) T.gC_TooMany rfl) pa_nil)))))))) (pss_one (ps_ret pe_bl)) pss_nil)
      (pss_one (ps_ret (pe_cmpR op_eq (pe_xf (T.x_BadWord (base := base)).xf (T.x_BadWord (base := base)).no hz.zc hf (pv 3)) (pv 0) (nomark _)))))))
      (pss_one (ps_ret pe_bl))), ?_⟩
  generalize start N_law_refused vs = σ at hE ⊢
  change wp (m_law_refused text which cut) _ _ at h
  unfold m_law_refused at h
  refine uSeq ?_
  refine st_try (mg := mg) (i := 3) [.im (text : Tx), .im (which : Int), .im (cut : Int), .any] (RetP K ρ Θ (fun b => .im b) Q) (fun (_ : Unit) => [.im (text : Tx), .im (which : Int), .im (cut : Int), .any]) hE (by decide : (3 : Nat) < 4) h (fun r h => h) (fun s I H σ hE h => ?_) (fun e h => ?_) (fun xe1 h I H σ xa1 xd1 xc1 xm1 hE => ?_) (fun hC1 h => ?_)
  rotate_left 1
  ·
    exact exm_all (kn_WordError_ok T (wp_knT h))
  ·
    replace h := wp_kn h
    replace hE : Env K _ _ _ [.im (text : Tx), .im (which : Int), .im (cut : Int), .im ((⟨xa1, xd1, xe1⟩ : ExV) : ExV)] _ _ := hE
    refine uSeq ?_
    refine st_ifm hE (ht_or_m (ht_not_m (ht_B (hf_isX (hΓ := rfl) (fun _ h => h) (is_BadWord_ok T xm1)))) (ht_or_m (ht_B (hf_isX (hΓ := rfl) (fun _ h => h) (is_OutOfBounds_ok T xm1))) (ht_B (hf_isX (hΓ := rfl) (fun _ h => h) (is_TooMany_ok T xm1))))) h (fun h => ?_) (fun h => ?_)
    ·
      exact st_ret hE (hf_c (a := false) rfl trivial) h
    ·
      refine uNext ?_
      exact st_retm hE (hf_mp (fun _ => hr_eqT) (hf_fldT (hΓ := rfl) xm1 (T.x_BadWord (base := base)).gC) (hf_var rfl)) h fun t9 h => h
  ·
    refine st_ifj (fun (_ : Unit) => [.im (text : Tx), .im (which : Int), .im (cut : Int), .any]) hE (ht_tt (hf_pp hr_eqI (hf_var rfl) (hf_c (a := (0 : Int)) rfl trivial))) h (fun h => ?_) (fun h => ?_) (fun s I H σ hE h => ?_)
    ·
      refine uDrop (uCallS (uCons ?_))
      refine st_push hE (hf_var rfl) fun hE => ?_
      refine uNil ?_
      refine st_call text hE rfl rfl h (fun e x I' H' cls d hm z => hC1 e x _ _ H' cls d hm (Env.weak (Γ' := [.im (text : Tx), .im (which : Int), .im (cut : Int), .any]) z ⟨.inr rfl, .inr rfl, .inr rfl, .inl rfl, trivial⟩)) fun t2 I H v hE h => ?_
      have hE := hE.pop
      exact h _ _ _ (hE.weak (Γ' := [.im (text : Tx), .im (which : Int), .im (cut : Int), .any]) ⟨.inr rfl, .inr rfl, .inr rfl, .inl rfl, trivial⟩)
    ·
      refine st_ifj (fun (_ : Unit) => [.im (text : Tx), .im (which : Int), .im (cut : Int), .any]) hE (ht_tt (hf_pp hr_eqI (hf_var rfl) (hf_c (a := (1 : Int)) rfl trivial))) h (fun h => ?_) (fun h => ?_) (fun s I H σ hE h => ?_)
      ·
        refine uDrop (uCallS (uCons ?_))
        refine st_push hE (hf_var rfl) fun hE => ?_
        refine uCons ?_
        refine st_push hE (hf_var rfl) fun hE => ?_
        refine uNil ?_
        refine st_call (text, cut) hE rfl rfl h (fun e x I' H' cls d hm z => hC1 e x _ _ H' cls d hm (Env.weak (Γ' := [.im (text : Tx), .im (which : Int), .im (cut : Int), .any]) z ⟨.inr rfl, .inr rfl, .inr rfl, .inl rfl, trivial⟩)) fun t3 I H v hE h => ?_
        have hE := hE.pop
        exact h _ _ _ (hE.weak (Γ' := [.im (text : Tx), .im (which : Int), .im (cut : Int), .any]) ⟨.inr rfl, .inr rfl, .inr rfl, .inl rfl, trivial⟩)
      ·
        refine uDrop (uCallS (uCons ?_))
        refine st_push hE (hf_var rfl) fun hE => ?_
        refine uNil ?_
        refine st_call text hE rfl rfl h (fun e x I' H' cls d hm z => hC1 e x _ _ H' cls d hm (Env.weak (Γ' := [.im (text : Tx), .im (which : Int), .im (cut : Int), .any]) z ⟨.inr rfl, .inr rfl, .inr rfl, .inl rfl, trivial⟩)) fun t4 I H v hE h => ?_
        have hE := hE.pop
        exact h _ _ _ (hE.weak (Γ' := [.im (text : Tx), .im (which : Int), .im (cut : Int), .any]) ⟨.inr rfl, .inr rfl, .inr rfl, .inl rfl, trivial⟩)
      exact h _ _ _ (hE.weak (Γ' := [.im (text : Tx), .im (which : Int), .im (cut : Int), .any]) ⟨.inr rfl, .inr rfl, .inr rfl, .inl rfl, trivial⟩)
    exact h _ _ _ (hE.weak (Γ' := [.im (text : Tx), .im (which : Int), .im (cut : Int), .any]) ⟨.inr rfl, .inr rfl, .inr rfl, .inl rfl, trivial⟩)
  exact st_ret hE (hf_c (a := false) rfl trivial) h

theorem ok_law_fits (T : Txt Pg w K mg) : FnOk Pg w K mg base (L2N.CX Pg w) 1 T.a_law_fits T.d_law_fits ["word", "low", "high", "period"] (SpM K mg 4 (fun (a : Tx × Int × Int × Int) => [.im a.1, .im a.2.1, .im a.2.2.1, .im a.2.2.2]) (fun a => m_law_fits a.1 a.2.1 a.2.2.1 a.2.2.2) (fun b => .im b)) := by
  refine okN T.F_law_fits sc_law_fits (fun vs H Q E h => h.1) fun cdv A outer s H vs Q E hr h => ?_
  obtain ⟨hl, ⟨word, low, high, period⟩, I, ρ, Θ, hE, h⟩ := h
  have hE : Env K I H (start N_law_fits vs) [.im (word : Tx), .im (low : Int), .im (high : Int), .im (period : Int), .any] ρ Θ := st_start hE (by rw [hl]; first | rfl | done)
  refine ⟨_, (pss_cons (ps_for (passes_of rfl) rfl (pi_range2 (by rfl) T.z_range (pa_cons (pe_callB (call_max2 rfl) (by rfl) T.z_max (by decide +kernel) (pa_cons pe_int (pa_cons (pv 1) pa_nil))) (pa_cons (pv 2) pa_nil))) (pg_name (i := 4) sc_law_fits.nd rfl (.inl rfl)) (pss_one (ps_if (pt_cmpR op_lt (pe_op op_add (pv 4) (pv 3)) (pe_callB call_len_str (by rfl) T.z_len PySem.boot_len (pa_cons (pv 0) pa_nil)) (nomark _)) (pss_one (ps_if (pt_cmpR op_ne (pe_ix ix_str (pv 0) (pv 4) (fun _ _ => rfl)) (pe_ix ix_str (pv 0) (pe_op op_add (pv 4) (pv 3)) (fun _ _ => rfl)) (nomark _)) (pss_one (ps_ret pe_bl)) pss_nil)) pss_nil)))
      (pss_one (ps_ret pe_bl))), ?_⟩
  generalize start N_law_fits vs = σ at hE ⊢
  change wp (m_law_fits word low high period) _ _ at h
  unfold m_law_fits at h
  refine uSeq (uFor ?_)
  refine it_rng2 hE (hf_c2p hc_max (hf_c (a := (0 : Int)) rfl trivial) (hf_var rfl)) (hf_var rfl) h fun xs1 h J hJ => ?_
  refine st_for (α := Int) hJ (RetP K ρ Θ (fun b => .im b) Q) (fun (_ : Unit) => [.im (word : Tx), .im (low : Int), .im (high : Int), .im (period : Int), .any]) hE ⟨.inr rfl, .inr rfl, .inr rfl, .inr rfl, .inl rfl, trivial⟩ h (fun r h => h) (fun place s I H σ v N B hE h => ?_) (fun s I H σ hE h => ?_)
  ·
    refine st_store (Γ' := [.im (word : Tx), .im (low : Int), .im (high : Int), .im (period : Int), .im (place : Int)]) hE rfl (by decide : (4 : Nat) < 5) fun σ hE => ?_
    refine st_if hE (ht_tt (hf_pp hr_lt (hf_pp hr_add (hf_var rfl) (hf_var rfl)) (hf_c1p hc_lenT (hf_var rfl)))) h (fun h => ?_) (fun h => ?_)
    ·
      refine st_ifm hE (ht_tt (hf_mm (fun _ _ => hr_neT) (hf_pp hr_getT (hf_var rfl) (hf_var rfl)) (hf_pp hr_getT (hf_var rfl) (hf_pp hr_add (hf_var rfl) (hf_var rfl))))) h (fun h => ?_) (fun h => ?_)
      ·
        exact st_ret hE (hf_c (a := false) rfl trivial) h
      ·
        refine uNext ?_
        exact h _ _ _ (hE.weak (Γ' := [.im (word : Tx), .im (low : Int), .im (high : Int), .im (period : Int), .any]) ⟨.inr rfl, .inr rfl, .inr rfl, .inr rfl, .inl rfl, trivial⟩)
    ·
      refine uNext ?_
      exact h _ _ _ (hE.weak (Γ' := [.im (word : Tx), .im (low : Int), .im (high : Int), .im (period : Int), .any]) ⟨.inr rfl, .inr rfl, .inr rfl, .inr rfl, .inl rfl, trivial⟩)
  exact st_ret hE (hf_c (a := true) rfl trivial) h

theorem ok_law_least (T : Txt Pg w K mg) : FnOk Pg w K mg base (L2N.CX Pg w) 2 T.a_law_least T.d_law_least ["word"] (SpM K mg 1 (fun (a : Tx) => [.im a]) (fun a => m_law_least a) (fun b => .im b)) := by
  refine okN T.F_law_least sc_law_least (fun vs H Q E h => h.1) fun cdv A outer s H vs Q E hr h => ?_
  obtain ⟨hl, word, I, ρ, Θ, hE, h⟩ := h
  have hE : Env K I H (start N_law_least vs) [.im (word : Tx), .any] ρ Θ := st_start hE (by rw [hl]; first | rfl | done)
  refine ⟨_, (pss_cons (ps_for (passes_of rfl) rfl (pi_range2 (by rfl) T.z_range (pa_cons pe_int (pa_cons (pe_callB call_len_str (by rfl) T.z_len PySem.boot_len (pa_cons (pv 0) pa_nil)) pa_nil))) (pg_name (i := 1) sc_law_least.nd rfl (.inl rfl)) (pss_one (ps_if (pt_val (pe_callS (ok_law_fits (base := base) T) (hr.mono (by decide)) (by rfl) T.g_law_fits T.F_law_fits.kp T.b_law_fits (fun σ => L2N.passAt (L2N.takes_of rfl rfl rfl rfl) σ) (pa_cons (pv 0) (pa_cons pe_int (pa_cons (pe_callB call_len_str (by rfl) T.z_len PySem.boot_len (pa_cons (pv 0) pa_nil)) (pa_cons (pv 1) pa_nil)))))) (pss_one (ps_ret (pv 1))) pss_nil)))
      (pss_one (ps_ret (pe_callB (call_max2 rfl) (by rfl) T.z_max (by decide +kernel) (pa_cons pe_int (pa_cons (pe_callB call_len_str (by rfl) T.z_len PySem.boot_len (pa_cons (pv 0) pa_nil)) pa_nil)))))), ?_⟩
  generalize start N_law_least vs = σ at hE ⊢
  change wp (m_law_least word) _ _ at h
  unfold m_law_least at h
  refine uSeq (uFor ?_)
  refine it_rng2 hE (hf_c (a := (1 : Int)) rfl trivial) (hf_c1p hc_lenT (hf_var rfl)) h fun xs1 h J hJ => ?_
  refine st_for (α := Int) hJ (RetP K ρ Θ (fun b => .im b) Q) (fun (_ : Unit) => [.im (word : Tx), .any]) hE ⟨.inr rfl, .inl rfl, trivial⟩ h (fun r h => h) (fun period s I H σ v N B hE h => ?_) (fun s I H σ hE h => ?_)
  ·
    refine st_store (Γ' := [.im (word : Tx), .im (period : Int)]) hE rfl (by decide : (1 : Nat) < 2) fun σ hE => ?_
    refine uIf (uB (uCallS (uCons ?_)))
    refine st_push hE (hf_var rfl) fun hE => ?_
    refine uCons ?_
    refine st_push hE (hf_c (a := (0 : Int)) rfl trivial) fun hE => ?_
    refine uCons ?_
    refine st_push hE (hf_c1p hc_lenT (hf_var rfl)) fun hE => ?_
    refine uCons ?_
    refine st_push hE (hf_var rfl) fun hE => ?_
    refine uNil ?_
    refine st_call (word, (0 : Int), ((word.length : Nat) : Int), period) hE rfl rfl h (fun e x I' H' cls d hm z => x _ H' cls d hm z.clear) fun t2 I H v hE h => ?_
    refine st_vb hE fun hE => ?_
    refine st_ite h (fun h => ?_) (fun h => ?_)
    ·
      exact st_ret hE (hf_var rfl) h
    ·
      refine uNext ?_
      exact h _ _ _ (hE.weak (Γ' := [.im (word : Tx), .any]) ⟨.inr rfl, .inl rfl, trivial⟩)
  exact st_ret hE (hf_c2p hc_max (hf_c (a := (1 : Int)) rfl trivial) (hf_c1p hc_lenT (hf_var rfl))) h

theorem ok_law_local (T : Txt Pg w K mg) : FnOk Pg w K mg base (L2N.CX Pg w) 2 T.a_law_local T.d_law_local ["word", "cut"] (SpM K mg 2 (fun (a : Tx × Int) => [.im a.1, .im a.2]) (fun a => m_law_local a.1 a.2) (fun b => .im b)) := by
  refine okN T.F_law_local sc_law_local (fun vs H Q E h => h.1) fun cdv A outer s H vs Q E hr h => ?_
  obtain ⟨hl, ⟨word, cut⟩, I, ρ, Θ, hE, h⟩ := h
  have hE : Env K I H (start N_law_local vs) [.im (word : Tx), .im (cut : Int), .any] ρ Θ := st_start hE (by rw [hl]; first | rfl | done)
  refine ⟨_, (pss_cons (ps_for (passes_of rfl) rfl (pi_range2 (by rfl) T.z_range (pa_cons pe_int (pa_cons (pe_callB call_len_str (by rfl) T.z_len PySem.boot_len (pa_cons (pv 0) pa_nil)) pa_nil))) (pg_name (i := 2) sc_law_local.nd rfl (.inl rfl)) (pss_one (ps_if (pt_val (pe_callS (ok_law_fits (base := base) T) (hr.mono (by decide)) (by rfl) T.g_law_fits T.F_law_fits.kp T.b_law_fits (fun σ => L2N.passAt (L2N.takes_of rfl rfl rfl rfl) σ) (pa_cons (pv 0) (pa_cons (pe_op op_sub (pv 1) (pv 2)) (pa_cons (pv 1) (pa_cons (pv 2) pa_nil)))))) (pss_one (ps_ret (pv 2))) pss_nil)))
      (pss_one (ps_ret (pe_callB call_len_str (by rfl) T.z_len PySem.boot_len (pa_cons (pv 0) pa_nil))))), ?_⟩
  generalize start N_law_local vs = σ at hE ⊢
  change wp (m_law_local word cut) _ _ at h
  unfold m_law_local at h
  refine uSeq (uFor ?_)
  refine it_rng2 hE (hf_c (a := (1 : Int)) rfl trivial) (hf_c1p hc_lenT (hf_var rfl)) h fun xs1 h J hJ => ?_
  refine st_for (α := Int) hJ (RetP K ρ Θ (fun b => .im b) Q) (fun (_ : Unit) => [.im (word : Tx), .im (cut : Int), .any]) hE ⟨.inr rfl, .inr rfl, .inl rfl, trivial⟩ h (fun r h => h) (fun period s I H σ v N B hE h => ?_) (fun s I H σ hE h => ?_)
  ·
    refine st_store (Γ' := [.im (word : Tx), .im (cut : Int), .im (period : Int)]) hE rfl (by decide : (2 : Nat) < 3) fun σ hE => ?_
    refine uIf (uB (uCallS (uCons ?_)))
    refine st_push hE (hf_var rfl) fun hE => ?_
    refine uCons ?_
    refine st_push hE (hf_pp hr_sub (hf_var rfl) (hf_var rfl)) fun hE => ?_
    refine uCons ?_
    refine st_push hE (hf_var rfl) fun hE => ?_
    refine uCons ?_
    refine st_push hE (hf_var rfl) fun hE => ?_
    refine uNil ?_
    refine st_call (word, (cut - period), cut, period) hE rfl rfl h (fun e x I' H' cls d hm z => x _ H' cls d hm z.clear) fun t2 I H v hE h => ?_
    refine st_vb hE fun hE => ?_
    refine st_ite h (fun h => ?_) (fun h => ?_)
    ·
      exact st_ret hE (hf_var rfl) h
    ·
      refine uNext ?_
      exact h _ _ _ (hE.weak (Γ' := [.im (word : Tx), .im (cut : Int), .any]) ⟨.inr rfl, .inr rfl, .inl rfl, trivial⟩)
  exact st_ret hE (hf_c1p hc_lenT (hf_var rfl)) h

theorem ok_law_same (T : Txt Pg w K mg) : FnOk Pg w K mg base (L2N.CX Pg w) 2 T.a_law_same T.d_law_same ["told", "due"] (SpM K mg 2 (fun (a : (List Int) × (List Int)) => [.im a.1, .im a.2]) (fun a => m_law_same a.1 a.2) (fun b => .im b)) := by
  refine okN T.F_law_same sc_law_same (fun vs H Q E h => h.1) fun cdv A outer s H vs Q E hr h => ?_
  obtain ⟨hl, ⟨told, due⟩, I, ρ, Θ, hE, h⟩ := h
  have hE : Env K I H (start N_law_same vs) [.im (told : (List Int)), .im (due : (List Int)), .any] ρ Θ := st_start hE (by rw [hl]; first | rfl | done)
  refine ⟨_, (pss_cons (ps_if (PW.pt (pw_or (pt_not (pt_val (pe_callB call_isi (by rfl) T.z_isinstance (by decide +kernel) (pa_cons (pv 0) (pa_cons (pe_bltn (v := .ty "list") (by rfl) T.z_list (by decide +kernel) rfl) pa_nil))))) (pw_or1 (pt_cmpR op_ne (pe_callB call_len_seq (by rfl) T.z_len PySem.boot_len (pa_cons (pv 0) pa_nil)) (pe_callB call_len_seq (by rfl) T.z_len PySem.boot_len (pa_cons (pv 1) pa_nil)) (nomark _))))) (pss_one (ps_ret pe_bl)) pss_nil)
      (pss_cons (ps_for (passes_of rfl) rfl (pi_range1 (by rfl) T.z_range (pa_cons (pe_callB call_len_seq (by rfl) T.z_len PySem.boot_len (pa_cons (pv 1) pa_nil)) pa_nil)) (pg_name (i := 2) sc_law_same.nd rfl (.inl rfl)) (pss_one (ps_if (PW.pt (pw_or (pt_not (pt_val (pe_callS (ok_law_whole (base := base) T) (hr.mono (by decide)) (by rfl) T.g_law_whole T.F_law_whole.kp T.b_law_whole (fun σ => L2N.passAt (L2N.takes_of rfl rfl rfl rfl) σ) (pa_cons (pe_ix ix_list (pv 0) (pv 2) (fun _ _ => rfl)) pa_nil)))) (pw_or1 (pt_cmpR op_ne (pe_ix ix_list (pv 0) (pv 2) (fun _ _ => rfl)) (pe_ix ix_list (pv 1) (pv 2) (fun _ _ => rfl)) (nomark _))))) (pss_one (ps_ret pe_bl)) pss_nil)))
      (pss_one (ps_ret pe_bl)))), ?_⟩
  generalize start N_law_same vs = σ at hE ⊢
  change wp (m_law_same told due) _ _ at h
  unfold m_law_same at h
  refine uSeq ?_
  refine st_if hE (ht_or_pp (ht_not_p (ht_B (hf_isL rfl (fun _ => rfl)))) (ht_tt (hf_pp hr_neI (hf_lenL (hΓ := rfl)) (hf_lenL (hΓ := rfl))))) h (fun h => ?_) (fun h => ?_)
  ·
    exact st_ret hE (hf_c (a := false) rfl trivial) h
  ·
    refine uNext (uSeq (uFor ?_))
    refine it_rng1 hE (hf_lenL (hΓ := rfl)) h fun xs1 h J hJ => ?_
    refine st_for (α := Int) hJ (RetP K ρ Θ (fun b => .im b) Q) (fun (_ : Unit) => [.im (told : (List Int)), .im (due : (List Int)), .any]) hE ⟨.inr rfl, .inr rfl, .inl rfl, trivial⟩ h (fun r h => h) (fun k_ s I H σ v N B hE h => ?_) (fun s I H σ hE h => ?_)
    ·
      refine st_store (Γ' := [.im (told : (List Int)), .im (due : (List Int)), .im (k_ : Int)]) hE rfl (by decide : (2 : Nat) < 3) fun σ hE => ?_
      refine uIf ?_
      refine st_tj hE (fun (s : Unit) => [.im (told : (List Int)), .im (due : (List Int)), .im (k_ : Int)]) h (fun h => ?_) (fun b7 s I H hE h => ?_)
      ·
        refine uOr (uNot (uB (uCallS (uCons ?_))))
        refine st_pushm hE (hf_ixLp rfl (hf_var rfl)) h fun t2 hE h => ?_
        refine uNil ?_
        refine st_call t2 hE rfl rfl h (fun e x I' H' cls d hm z => x _ H' cls d hm z.clear) fun t3 I H v hE h => ?_
        refine st_vb hE fun hE => ?_
        refine st_ite h (fun h => ?_) (fun h => ?_)
        ·
          exact h _ _ hE
        ·
          refine st_htm hE (ht_tt (hf_mm (fun _ _ => hr_neI) (hf_ixLp rfl (hf_var rfl)) (hf_ixLp rfl (hf_var rfl)))) h fun b6 h => ?_
          exact h _ _ hE
      refine st_ite h (fun h => ?_) (fun h => ?_)
      ·
        exact st_ret hE (hf_c (a := false) rfl trivial) h
      ·
        refine uNext ?_
        exact h _ _ _ (hE.weak (Γ' := [.im (told : (List Int)), .im (due : (List Int)), .any]) ⟨.inr rfl, .inr rfl, .inl rfl, trivial⟩)
    exact st_ret hE (hf_c (a := true) rfl trivial) h

theorem ok_law_kept (T : Txt Pg w K mg) : FnOk Pg w K mg base (L2N.CX Pg w) 5 T.a_law_kept T.d_law_kept ["word"] (SpM K mg 1 (fun (a : Tx) => [.im a]) (fun a => m_law_kept a) (fun b => .im b)) := by
  refine okN T.F_law_kept sc_law_kept (fun vs H Q E h => h.1) fun cdv A outer s H vs Q E hr h => ?_
  obtain ⟨hl, word, I, ρ, Θ, hE, h⟩ := h
  have hE : Env K I H (start N_law_kept vs) [.im (word : Tx), .any, .any, .any, .any, .any, .any] ρ Θ := st_start hE (by rw [hl]; first | rfl | done)
  refine ⟨_, (pss_cons (ps_set (i := 1) sc_law_kept.nd rfl (.inl rfl) (pe_callS (ok_law_least (base := base) T) (hr.mono (by decide)) (by rfl) T.g_law_least T.F_law_least.kp T.b_law_least (fun σ => L2N.passAt (L2N.takes_of rfl rfl rfl rfl) σ) (pa_cons (pv 0) pa_nil)))
      (pss_cons (ps_set (i := 2) sc_law_kept.nd rfl (.inl rfl) (pe_callS (ok_least_period (base := base) T) (hr.mono (by decide)) (by rfl) T.g_least_period T.F_least_period.kp T.b_least_period (fun σ => L2N.passAt (L2N.takes_of rfl rfl rfl rfl) σ) (pa_cons (pv 0) pa_nil)))
      (pss_cons (ps_if (PW.pt (pw_or (pt_not (pt_val (pe_callS (ok_law_whole (base := base) T) (hr.mono (by decide)) (by rfl) T.g_law_whole T.F_law_whole.kp T.b_law_whole (fun σ => L2N.passAt (L2N.takes_of rfl rfl rfl rfl) σ) (pa_cons (pv 2) pa_nil)))) (pw_or1 (pt_cmpR op_ne (pv 2) (pv 1) (nomark _))))) (pss_one (ps_ret pe_bl)) pss_nil)
      (pss_cons (ps_set (i := 3) sc_law_kept.nd rfl (.inl rfl) (pe_lst pa_nil))
      (pss_cons (ps_for (passes_of rfl) rfl (pi_range2 (by rfl) T.z_range (pa_cons pe_int (pa_cons (pe_callB call_len_str (by rfl) T.z_len PySem.boot_len (pa_cons (pv 0) pa_nil)) pa_nil))) (pg_name (i := 4) sc_law_kept.nd rfl (.inl rfl)) (pss_cons (ps_set (i := 6) sc_law_kept.nd rfl (.inl rfl) (pe_callS (ok_law_local (base := base) T) (hr.mono (by decide)) (by rfl) T.g_law_local T.F_law_local.kp T.b_law_local (fun σ => L2N.passAt (L2N.takes_of rfl rfl rfl rfl) σ) (pa_cons (pv 0) (pa_cons (pv 4) pa_nil))))
      (pss_cons (ps_set (i := 2) sc_law_kept.nd rfl (.inl rfl) (pe_callS (ok_local_period (base := base) T) (hr.mono (by decide)) (by rfl) T.g_local_period T.F_local_period.kp T.b_local_period (fun σ => L2N.passAt (L2N.takes_of rfl rfl rfl rfl) σ) (pa_cons (pv 0) (pa_cons (pv 4) pa_nil))))
      (pss_cons (ps_if (PW.pt (pw_or (pt_not (pt_val (pe_callS (ok_law_whole (base := base) T) (hr.mono (by decide)) (by rfl) T.g_law_whole T.F_law_whole.kp T.b_law_whole (fun σ => L2N.passAt (L2N.takes_of rfl rfl rfl rfl) σ) (pa_cons (pv 2) pa_nil)))) (pw_or (pt_cmpR op_ne (pv 2) (pv 6) (nomark _)) (pw_or1 (pt_cmpR op_gt (pv 6) (pv 1) (nomark _)))))) (pss_one (ps_ret pe_bl)) pss_nil)
      (pss_one (ps_if (pt_cmpR op_eq (pv 6) (pv 1) (nomark _)) (pss_one (ps_expr (pe_bm PySem.F.plainAttrs_list PySem.F.slot_list_append PySem.F.type_list_append mt_append (pv 3) (pa_cons (pv 4) pa_nil)))) pss_nil))))))
      (pss_cons (ps_if (pt_cmpR op_gt (pe_callB call_len_str (by rfl) T.z_len PySem.boot_len (pa_cons (pv 0) pa_nil)) pe_int (nomark _)) (pss_one (ps_if (PW.pt (pw_or (pt_cmpR (op_eqD hr.units) (pv 3) (pe_lst pa_nil) (nomark _)) (pw_or1 (PW.pt (pw_and (pt_cmpR op_ne (pe_ix ix_list (pv 3) pe_int (fun _ _ => rfl)) pe_int (nomark _)) (pw_and1 (pt_cmpR op_ge (pe_ix ix_list (pv 3) pe_int (fun _ _ => rfl)) (pv 1) (nomark _)))))))) (pss_one (ps_ret pe_bl)) pss_nil)) pss_nil)
      (pss_cons (ps_set (i := 5) sc_law_kept.nd rfl (.inl rfl) (pe_callS (ok_critical_cuts (base := base) T) (hr.mono (by decide)) (by rfl) T.g_critical_cuts T.F_critical_cuts.kp T.b_critical_cuts (fun σ => L2N.passAt (L2N.takes_of rfl rfl rfl rfl) σ) (pa_cons (pv 0) pa_nil)))
      (pss_cons (ps_if (pt_not (pt_val (pe_callS (ok_law_same (base := base) T) (hr.mono (by decide)) (by rfl) T.g_law_same T.F_law_same.kp T.b_law_same (fun σ => L2N.passAt (L2N.takes_of rfl rfl rfl rfl) σ) (pa_cons (pv 5) (pa_cons (pv 3) pa_nil))))) (pss_one (ps_ret pe_bl)) pss_nil)
      (pss_cons (ps_expr (pe_bm PySem.F.plainAttrs_list PySem.F.slot_list_append PySem.F.type_list_append mt_append (pv 5) (pa_cons pe_int pa_nil)))
      (pss_cons (ps_if (pt_cmpR op_ne (pe_callKS0 (ok_least_period (base := base) T) (hr.mono (by decide)) (by rfl) T.g_least_period T.F_least_period.kp T.k_least_period_1 (fun σ => L2N.passAt (L2N.takes_of rfl rfl rfl rfl) σ) (pk_cons (pv 0) pk_nil)) (pv 1) (nomark _)) (pss_one (ps_ret pe_bl)) pss_nil)
      (pss_one (ps_ret (pe_callS (ok_law_same (base := base) T) (hr.mono (by decide)) (by rfl) T.g_law_same T.F_law_same.kp T.b_law_same (fun σ => L2N.passAt (L2N.takes_of rfl rfl rfl rfl) σ) (pa_cons (pe_callKS0 (ok_critical_cuts (base := base) T) (hr.mono (by decide)) (by rfl) T.g_critical_cuts T.F_critical_cuts.kp T.k_critical_cuts_2 (fun σ => L2N.passAt (L2N.takes_of rfl rfl rfl rfl) σ) (pk_cons (pv 0) pk_nil)) (pa_cons (pv 3) pa_nil))))))))))))))), ?_⟩
  generalize start N_law_kept vs = σ at hE ⊢
  change wp (m_law_kept word) _ _ at h
  unfold m_law_kept at h
  refine uSeq (uAsg (uCallS (uCons ?_)))
  refine st_push hE (hf_var rfl) fun hE => ?_
  refine uNil ?_
  refine st_call word hE rfl rfl h (fun e x I' H' cls d hm z => x _ H' cls d hm z.clear) fun t1 I H v hE h => ?_
  refine st_store (Γ' := [.im (word : Tx), .im (t1 : Int), .any, .any, .any, .any, .any]) hE rfl (by decide : (1 : Nat) < 7) fun σ hE => ?_
  refine uSeq (uAsg (uCallS (uCons ?_)))
  refine st_push hE (hf_var rfl) fun hE => ?_
  refine uNil ?_
  refine st_call word hE rfl rfl h (fun e x I' H' cls d hm z => x _ H' cls d hm z.clear) fun t2 I H v hE h => ?_
  refine st_store (Γ' := [.im (word : Tx), .im (t1 : Int), .im (t2 : Int), .any, .any, .any, .any]) hE rfl (by decide : (2 : Nat) < 7) fun σ hE => ?_
  refine uSeq (uIf ?_)
  refine st_tj hE (fun (s : Unit) => [.im (word : Tx), .im (t1 : Int), .im (t2 : Int), .any, .any, .any, .any]) h (fun h => ?_) (fun b4 s I H hE h => ?_)
  ·
    refine uOr (uNot (uB (uCallS (uCons ?_))))
    refine st_push hE (hf_var rfl) fun hE => ?_
    refine uNil ?_
    refine st_call t2 hE rfl rfl h (fun e x I' H' cls d hm z => x _ H' cls d hm z.clear) fun t3 I H v hE h => ?_
    refine st_vb hE fun hE => ?_
    refine st_ite h (fun h => ?_) (fun h => ?_)
    ·
      exact h _ _ hE
    ·
      refine st_htp hE (ht_tt (hf_pp hr_neI (hf_var rfl) (hf_var rfl))) ?_
      exact h _ _ hE
  refine st_ite h (fun h => ?_) (fun h => ?_)
  ·
    exact st_ret hE (hf_c (a := false) rfl trivial) h
  ·
    refine uNext (uSeq (uAsg (uLst (uNil ?_))))
    refine st_lstO (α := Int) [] [] rfl (Nat.zero_le _) hE fun H v hE => ?_
    refine st_nameO hE h fun due hE h => ?_
    refine st_store (Γ' := [.im (word : Tx), .im (t1 : Int), .im (t2 : Int), .own (due : (List Int)), .any, .any, .any]) hE rfl (by decide : (3 : Nat) < 7) fun σ hE => ?_
    refine uSeq (uFor ?_)
    refine it_rng2 hE (hf_c (a := (1 : Int)) rfl trivial) (hf_c1p hc_lenT (hf_var rfl)) h fun xs5 h J hJ => ?_
    refine st_for (α := Int) hJ (RetP K ρ Θ (fun b => .im b) Q) (fun (due : (List Int)) => [.im (word : Tx), .im (t1 : Int), .any, .own (due : (List Int)), .any, .any, .any]) hE ⟨.inr rfl, .inr rfl, .inl rfl, .inr rfl, .inl rfl, .inl rfl, .inl rfl, trivial⟩ h (fun r h => h) (fun cut s I H σ v N B hE h => ?_) (fun s I H σ hE h => ?_)
    ·
      revert hE h; revert s; intro due hE h
      refine st_store (Γ' := [.im (word : Tx), .im (t1 : Int), .any, .own (due : (List Int)), .im (cut : Int), .any, .any]) hE rfl (by decide : (4 : Nat) < 7) fun σ hE => ?_
      refine uSeq (uAsg (uCallS (uCons ?_)))
      refine st_push hE (hf_var rfl) fun hE => ?_
      refine uCons ?_
      refine st_push hE (hf_var rfl) fun hE => ?_
      refine uNil ?_
      refine st_call (word, cut) hE rfl rfl h (fun e x I' H' cls d hm z => x _ H' cls d hm z.clear) fun t6 I H v hE h => ?_
      refine st_store (Γ' := [.im (word : Tx), .im (t1 : Int), .any, .own (due : (List Int)), .im (cut : Int), .any, .im (t6 : Int)]) hE rfl (by decide : (6 : Nat) < 7) fun σ hE => ?_
      refine uSeq (uAsg (uCallS (uCons ?_)))
      refine st_push hE (hf_var rfl) fun hE => ?_
      refine uCons ?_
      refine st_push hE (hf_var rfl) fun hE => ?_
      refine uNil ?_
      refine st_call (word, cut) hE rfl rfl h (fun e x I' H' cls d hm z => x _ H' cls d hm z.clear) fun t7 I H v hE h => ?_
      refine st_store (Γ' := [.im (word : Tx), .im (t1 : Int), .im (t7 : Int), .own (due : (List Int)), .im (cut : Int), .any, .im (t6 : Int)]) hE rfl (by decide : (2 : Nat) < 7) fun σ hE => ?_
      refine uSeq (uIf ?_)
      refine st_tj hE (fun (s : Unit) => [.im (word : Tx), .im (t1 : Int), .im (t7 : Int), .own (due : (List Int)), .im (cut : Int), .any, .im (t6 : Int)]) h (fun h => ?_) (fun b9 s I H hE h => ?_)
      ·
        refine uOr (uNot (uB (uCallS (uCons ?_))))
        refine st_push hE (hf_var rfl) fun hE => ?_
        refine uNil ?_
        refine st_call t7 hE rfl rfl h (fun e x I' H' cls d hm z => x _ H' cls d hm z.clear) fun t8 I H v hE h => ?_
        refine st_vb hE fun hE => ?_
        refine st_ite h (fun h => ?_) (fun h => ?_)
        ·
          exact h _ _ hE
        ·
          refine uOr ?_
          refine st_htp hE (ht_tt (hf_pp hr_neI (hf_var rfl) (hf_var rfl))) ?_
          refine st_ite h (fun h => ?_) (fun h => ?_)
          ·
            exact h _ _ hE
          ·
            refine st_htp hE (ht_tt (hf_pp hr_gt (hf_var rfl) (hf_var rfl))) ?_
            exact h _ _ hE
      refine st_ite h (fun h => ?_) (fun h => ?_)
      ·
        exact st_ret hE (hf_c (a := false) rfl trivial) h
      ·
        refine uNext ?_
        refine st_ifj (fun (due : (List Int)) => [.im (word : Tx), .im (t1 : Int), .im (t7 : Int), .own (due : (List Int)), .im (cut : Int), .any, .im (t6 : Int)]) hE (ht_tt (hf_pp hr_eqI (hf_var rfl) (hf_var rfl))) h (fun h => ?_) (fun h => ?_) (fun s I H σ hE h => ?_)
        ·
          refine uDrop ?_
          refine st_bmO (i := 3) hE rfl fun l9 hl_l9 => ?_
          refine uCons ?_
          refine st_push hE (hf_var rfl) fun hE => ?_
          refine uNil ?_
          refine st_app (i := 3) hE hl_l9 rfl h fun due H hE h => ?_
          replace hE : Env K _ _ _ [.im (word : Tx), .im (t1 : Int), .im (t7 : Int), .own (due : (List Int)), .im (cut : Int), .any, .im (t6 : Int)] _ _ := hE
          exact h _ _ _ (hE.weak (Γ' := [.im (word : Tx), .im (t1 : Int), .im (t7 : Int), .own (due : (List Int)), .im (cut : Int), .any, .im (t6 : Int)]) ⟨.inr rfl, .inr rfl, .inr rfl, .inr rfl, .inr rfl, .inl rfl, .inr rfl, trivial⟩)
        ·
          refine uNext ?_
          exact h _ _ _ (hE.weak (Γ' := [.im (word : Tx), .im (t1 : Int), .im (t7 : Int), .own (due : (List Int)), .im (cut : Int), .any, .im (t6 : Int)]) ⟨.inr rfl, .inr rfl, .inr rfl, .inr rfl, .inr rfl, .inl rfl, .inr rfl, trivial⟩)
        revert hE h; revert s; intro due hE h
        exact h _ _ _ (hE.weak (Γ' := [.im (word : Tx), .im (t1 : Int), .any, .own (due : (List Int)), .any, .any, .any]) ⟨.inr rfl, .inr rfl, .inl rfl, .inr rfl, .inl rfl, .inl rfl, .inl rfl, trivial⟩)
    revert hE h; revert s; intro due hE h
    refine uSeq ?_
    refine st_if hE (ht_tt (hf_pp hr_gt (hf_c1p hc_lenT (hf_var rfl)) (hf_c (a := (1 : Int)) rfl trivial))) h (fun h => ?_) (fun h => ?_)
    ·
      refine uIf ?_
      refine st_tj hE (fun (s : Unit) => [.im (word : Tx), .im (t1 : Int), .any, .own (due : (List Int)), .any, .any, .any]) h (fun h => ?_) (fun b16 s I H hE h => ?_)
      ·
        refine uOr (uTest ?_)
        refine st_eqOnil (i := 3) hE rfl (lay_ints _) (by decide) fun H v hE => ?_
        refine st_vb hE fun hE => ?_
        refine st_ite h (fun h => ?_) (fun h => ?_)
        ·
          exact h _ _ hE
        ·
          refine st_htm hE (ht_and_m (ht_tt (hf_mp (fun _ => hr_neI) (hf_ixOp rfl (hf_c (a := (0 : Int)) rfl trivial)) (hf_c (a := (1 : Int)) rfl trivial))) (ht_tt (hf_mp (fun _ => hr_ge) (hf_ixOp rfl (hf_c (a := (0 : Int)) rfl trivial)) (hf_var rfl)))) h fun b15 h => ?_
          exact h _ _ hE
      refine st_ite h (fun h => ?_) (fun h => ?_)
      ·
        exact st_ret hE (hf_c (a := false) rfl trivial) h
      ·
        refine uNext (uSeq (uAsg (uCallS (uCons ?_))))
        refine st_push hE (hf_var rfl) fun hE => ?_
        refine uNil ?_
        refine st_call word hE rfl rfl h (fun e x I' H' cls d hm z => x _ H' cls d hm z.clear) fun t17 I H v hE h => ?_
        refine st_store (Γ' := [.im (word : Tx), .im (t1 : Int), .any, .own (due : (List Int)), .any, .own (t17 : (List Int)), .any]) hE rfl (by decide : (5 : Nat) < 7) fun σ hE => ?_
        refine uSeq (uIf (uNot (uB ?_)))
        skip
        obtain ⟨I18_0, s18_0, hE18_0⟩ := hE.let (i := 5) rfl
        obtain ⟨I18_1, s18_1, hE18_1⟩ := hE18_0.let (i := 3) rfl
        obtain ⟨S18, hE, back18, backX18⟩ := hE.borrow hE18_1 (s18_0.trans s18_1)
        replace hE : Env K _ _ _ [.im (word : Tx), .im (t1 : Int), .any, .im (due : (List Int)), .any, .im (t17 : (List Int)), .any] _ _ := hE
        refine uCallS (uCons ?_)
        refine st_var hE (i := 5) rfl fun v hE => ?_
        refine uCons ?_
        refine st_var hE (i := 3) rfl fun v hE => ?_
        refine uNil ?_
        refine st_call (t17, due) hE rfl rfl h (fun e x I' H' cls d hm z => let ⟨_, z⟩ := backX18 z; x _ H' cls d hm z.clear) fun t19 I H v hE h => ?_
        replace hE := back18 hE
        refine st_vb hE fun hE => ?_
        refine st_ite h (fun h => ?_) (fun h => ?_)
        ·
          exact st_ret hE (hf_c (a := false) rfl trivial) h
        ·
          refine uNext (uSeq (uDrop ?_))
          refine st_bmO (i := 5) hE rfl fun l19 hl_l19 => ?_
          refine uCons ?_
          refine st_push hE (hf_c (a := (0 : Int)) rfl trivial) fun hE => ?_
          refine uNil ?_
          refine st_app (i := 5) hE hl_l19 rfl h fun rows H hE h => ?_
          replace hE : Env K _ _ _ [.im (word : Tx), .im (t1 : Int), .any, .own (due : (List Int)), .any, .own (rows : (List Int)), .any] _ _ := hE
          refine uSeq (uIf (uTest (uOp (uCallKS (uNil (uCons ?_))))))
          refine st_push hE (hf_var rfl) fun hE => ?_
          refine uNil ?_
          refine ⟨rfl, rfl, ?_⟩
          refine st_call word hE rfl rfl h (fun e x I' H' cls d hm z => x _ H' cls d hm z.clear) fun t21 I H v hE h => ?_
          refine st_push hE (hf_var rfl) fun hE => ?_
          refine st_op2p hE hr_neI fun v hE => ?_
          refine st_vb hE fun hE => ?_
          refine st_ite h (fun h => ?_) (fun h => ?_)
          ·
            exact st_ret hE (hf_c (a := false) rfl trivial) h
          ·
            refine uNext (uRet ?_)
            skip
            obtain ⟨I22_0, s22_0, hE22_0⟩ := hE.let (i := 3) rfl
            obtain ⟨S22, hE, back22, backX22⟩ := hE.borrow hE22_0 s22_0
            replace hE : Env K _ _ _ [.im (word : Tx), .im (t1 : Int), .any, .im (due : (List Int)), .any, .any, .any] _ _ := hE
            refine uCallS (uCons (uCallKS (uNil (uCons ?_))))
            refine st_push hE (hf_var rfl) fun hE => ?_
            refine uNil ?_
            refine ⟨rfl, rfl, ?_⟩
            refine st_call word hE rfl rfl h (fun e x I' H' cls d hm z => let ⟨_, z⟩ := backX22 z; x _ H' cls d hm z.clear) fun t23 I H v hE h => ?_
            refine st_freezeT hE fun I hE => ?_
            refine uCons ?_
            refine st_var hE (i := 3) rfl fun v hE => ?_
            refine uNil ?_
            refine st_call (t23, due) hE rfl rfl h (fun e x I' H' cls d hm z => let ⟨_, z⟩ := backX22 z; x _ H' cls d hm z.clear) fun t24 I H v hE h => ?_
            replace hE := back22 hE
            exact h _ _ _ hE.clear
    ·
      refine uNext (uSeq (uAsg (uCallS (uCons ?_))))
      refine st_push hE (hf_var rfl) fun hE => ?_
      refine uNil ?_
      refine st_call word hE rfl rfl h (fun e x I' H' cls d hm z => x _ H' cls d hm z.clear) fun t25 I H v hE h => ?_
      refine st_store (Γ' := [.im (word : Tx), .im (t1 : Int), .any, .own (due : (List Int)), .any, .own (t25 : (List Int)), .any]) hE rfl (by decide : (5 : Nat) < 7) fun σ hE => ?_
      refine uSeq (uIf (uNot (uB ?_)))
      skip
      obtain ⟨I26_0, s26_0, hE26_0⟩ := hE.let (i := 5) rfl
      obtain ⟨I26_1, s26_1, hE26_1⟩ := hE26_0.let (i := 3) rfl
      obtain ⟨S26, hE, back26, backX26⟩ := hE.borrow hE26_1 (s26_0.trans s26_1)
      replace hE : Env K _ _ _ [.im (word : Tx), .im (t1 : Int), .any, .im (due : (List Int)), .any, .im (t25 : (List Int)), .any] _ _ := hE
      refine uCallS (uCons ?_)
      refine st_var hE (i := 5) rfl fun v hE => ?_
      refine uCons ?_
      refine st_var hE (i := 3) rfl fun v hE => ?_
      refine uNil ?_
      refine st_call (t25, due) hE rfl rfl h (fun e x I' H' cls d hm z => let ⟨_, z⟩ := backX26 z; x _ H' cls d hm z.clear) fun t27 I H v hE h => ?_
      replace hE := back26 hE
      refine st_vb hE fun hE => ?_
      refine st_ite h (fun h => ?_) (fun h => ?_)
      ·
        exact st_ret hE (hf_c (a := false) rfl trivial) h
      ·
        refine uNext (uSeq (uDrop ?_))
        refine st_bmO (i := 5) hE rfl fun l27 hl_l27 => ?_
        refine uCons ?_
        refine st_push hE (hf_c (a := (0 : Int)) rfl trivial) fun hE => ?_
        refine uNil ?_
        refine st_app (i := 5) hE hl_l27 rfl h fun rows H hE h => ?_
        replace hE : Env K _ _ _ [.im (word : Tx), .im (t1 : Int), .any, .own (due : (List Int)), .any, .own (rows : (List Int)), .any] _ _ := hE
        refine uSeq (uIf (uTest (uOp (uCallKS (uNil (uCons ?_))))))
        refine st_push hE (hf_var rfl) fun hE => ?_
        refine uNil ?_
        refine ⟨rfl, rfl, ?_⟩
        refine st_call word hE rfl rfl h (fun e x I' H' cls d hm z => x _ H' cls d hm z.clear) fun t29 I H v hE h => ?_
        refine st_push hE (hf_var rfl) fun hE => ?_
        refine st_op2p hE hr_neI fun v hE => ?_
        refine st_vb hE fun hE => ?_
        refine st_ite h (fun h => ?_) (fun h => ?_)
        ·
          exact st_ret hE (hf_c (a := false) rfl trivial) h
        ·
          refine uNext (uRet ?_)
          skip
          obtain ⟨I30_0, s30_0, hE30_0⟩ := hE.let (i := 3) rfl
          obtain ⟨S30, hE, back30, backX30⟩ := hE.borrow hE30_0 s30_0
          replace hE : Env K _ _ _ [.im (word : Tx), .im (t1 : Int), .any, .im (due : (List Int)), .any, .any, .any] _ _ := hE
          refine uCallS (uCons (uCallKS (uNil (uCons ?_))))
          refine st_push hE (hf_var rfl) fun hE => ?_
          refine uNil ?_
          refine ⟨rfl, rfl, ?_⟩
          refine st_call word hE rfl rfl h (fun e x I' H' cls d hm z => let ⟨_, z⟩ := backX30 z; x _ H' cls d hm z.clear) fun t31 I H v hE h => ?_
          refine st_freezeT hE fun I hE => ?_
          refine uCons ?_
          refine st_var hE (i := 3) rfl fun v hE => ?_
          refine uNil ?_
          refine st_call (t31, due) hE rfl rfl h (fun e x I' H' cls d hm z => let ⟨_, z⟩ := backX30 z; x _ H' cls d hm z.clear) fun t32 I H v hE h => ?_
          replace hE := back30 hE
          exact h _ _ _ hE.clear

theorem ok_law (T : Txt Pg w K mg) : FnOk Pg w K mg base (L2N.CX Pg w) 6 T.a_law T.d_law ["script"] (SpM K mg 1 (fun (a : Scr) => [.im a]) (fun a => m_law a) (fun b => .im b)) := by
  refine okN T.F_law sc_law (fun vs H Q E h => h.1) fun cdv A outer s H vs Q E hr h => ?_
  obtain ⟨hl, script, I, ρ, Θ, hE, h⟩ := h
  have hE : Env K I H (start N_law vs) [.im (script : Scr), .any, .any, .any, .any, .any, .any, .any, .any, .any, .any, .any, .any, .any, .any, .any] ρ Θ := st_start hE (by rw [hl]; first | rfl | done)
  refine ⟨_, (pss_cons (ps_set (i := 1) sc_law.nd rfl (.inl rfl) (pe_callS (ok_law_source (base := base) T) (hr.mono (by decide)) (by rfl) T.g_law_source T.F_law_source.kp T.b_law_source (fun σ => L2N.passAt (L2N.takes_of rfl rfl rfl rfl) σ) (pa_cons (pv 0) pa_nil)))
      (pss_cons (ps_if (pt_cmpR op_eq (pe_callS (ok_law_draw (base := base) T) (hr.mono (by decide)) (by rfl) T.g_law_draw T.F_law_draw.kp T.b_law_draw (fun σ => L2N.passAt (L2N.takes_of rfl rfl rfl rfl) σ) (pa_cons (pv 1) (pa_cons pe_int pa_nil))) pe_int (nomark _)) (pss_one (ps_set (i := 12) sc_law.nd rfl (.inl rfl) (pe_callS (ok_law_word (base := base) T) (hr.mono (by decide)) (by rfl) T.g_law_word T.F_law_word.kp T.b_law_word (fun σ => L2N.passAt (L2N.takes_of rfl rfl rfl rfl) σ) (pa_cons (pv 1) (pa_cons pe_int (pa_cons pe_int pa_nil)))))) (pss_one (ps_set (i := 12) sc_law.nd rfl (.inl rfl) (pe_callS (ok_law_word (base := base) T) (hr.mono (by decide)) (by rfl) T.g_law_word T.F_law_word.kp T.b_law_word (fun σ => L2N.passAt (L2N.takes_of rfl rfl rfl rfl) σ) (pa_cons (pv 1) (pa_cons pe_int (pa_cons pe_int pa_nil)))))))
      (pss_cons (ps_set (i := 2) sc_law.nd rfl (.inl rfl) (pe_callS (ok_law_word (base := base) T) (hr.mono (by decide)) (by rfl) T.g_law_word T.F_law_word.kp T.b_law_word (fun σ => L2N.passAt (L2N.takes_of rfl rfl rfl rfl) σ) (pa_cons (pv 1) (pa_cons pe_int (pa_cons pe_int pa_nil)))))
      (pss_cons (ps_set (i := 3) sc_law.nd rfl (.inl rfl) (pe_op op_add pe_int (pe_callS (ok_law_draw (base := base) T) (hr.mono (by decide)) (by rfl) T.g_law_draw T.F_law_draw.kp T.b_law_draw (fun σ => L2N.passAt (L2N.takes_of rfl rfl rfl rfl) σ) (pa_cons (pv 1) (pa_cons pe_int pa_nil)))))
      (pss_cons (ps_set (i := 4) sc_law.nd rfl (.inl rfl) (pe_op op_add_str (pe_op op_rep_str (pv 2) (pv 3)) (pe_slice sl_str (pv 2) po_none (po_some (pe_callS (ok_law_draw (base := base) T) (hr.mono (by decide)) (by rfl) T.g_law_draw T.F_law_draw.kp T.b_law_draw (fun σ => L2N.passAt (L2N.takes_of rfl rfl rfl rfl) σ) (pa_cons (pv 1) (pa_cons (pe_callB call_len_str (by rfl) T.z_len PySem.boot_len (pa_cons (pv 2) pa_nil)) pa_nil)))))))
      (pss_cons (ps_set (i := 5) sc_law.nd rfl (.inl rfl) (pe_ix ix_str pe_str (pe_callS (ok_law_draw (base := base) T) (hr.mono (by decide)) (by rfl) T.g_law_draw T.F_law_draw.kp T.b_law_draw (fun σ => L2N.passAt (L2N.takes_of rfl rfl rfl rfl) σ) (pa_cons (pv 1) (pa_cons pe_int pa_nil))) (fun _ _ => rfl)))
      (pss_cons (ps_set (i := 6) sc_law.nd rfl (.inl rfl) (pe_ix ix_str pe_str (pe_callS (ok_law_draw (base := base) T) (hr.mono (by decide)) (by rfl) T.g_law_draw T.F_law_draw.kp T.b_law_draw (fun σ => L2N.passAt (L2N.takes_of rfl rfl rfl rfl) σ) (pa_cons (pv 1) (pa_cons pe_int pa_nil))) (fun _ _ => rfl)))
      (pss_cons (ps_set (i := 7) sc_law.nd rfl (.inl rfl) (pe_callS (ok_law_draw (base := base) T) (hr.mono (by decide)) (by rfl) T.g_law_draw T.F_law_draw.kp T.b_law_draw (fun σ => L2N.passAt (L2N.takes_of rfl rfl rfl rfl) σ) (pa_cons (pv 1) (pa_cons (pe_op op_add (pe_callB call_len_str (by rfl) T.z_len PySem.boot_len (pa_cons (pv 12) pa_nil)) pe_int) pa_nil))))
      (pss_cons (ps_set (i := 8) sc_law.nd rfl (.inl rfl) (pe_op op_add_str (pe_op op_add_str (pe_slice sl_str (pv 12) po_none (po_some (pv 7))) (pv 6)) (pe_slice sl_str (pv 12) (po_some (pv 7)) po_none)))
      (pss_cons (ps_set (i := 9) sc_law.nd rfl (.inl rfl) (pe_callS (ok_law_draw (base := base) T) (hr.mono (by decide)) (by rfl) T.g_law_draw T.F_law_draw.kp T.b_law_draw (fun σ => L2N.passAt (L2N.takes_of rfl rfl rfl rfl) σ) (pa_cons (pv 1) (pa_cons pe_int pa_nil))))
      (pss_cons (ps_for (passes_of rfl) rfl (pi_list (pe_lst (pa_cons (pv 12) (pa_cons (pv 4) (pa_cons (pv 12) (pa_cons (pe_op op_rep_str (pv 5) pe_int) (pa_cons (pv 5) (pa_cons pe_str pa_nil)))))))) (pg_name (i := 10) sc_law.nd rfl (.inl rfl)) (pss_cons (ps_if (pt_not (pt_val (pe_callS (ok_law_kept (base := base) T) (hr.mono (by decide)) (by rfl) T.g_law_kept T.F_law_kept.kp T.b_law_kept (fun σ => L2N.passAt (L2N.takes_of rfl rfl rfl rfl) σ) (pa_cons (pv 10) pa_nil)))) (pss_one (ps_ret pe_bl)) pss_nil)
      (pss_cons (ps_set (i := 13) sc_law.nd rfl (.inl rfl) (pe_callB call_len_str (by rfl) T.z_len PySem.boot_len (pa_cons (pv 10) pa_nil)))
      (pss_one (ps_for (passes_of rfl) rfl (pi_list (pe_lst (pa_cons pe_int (pa_cons (pv 13) (pa_cons (pe_op op_sub (pe_un un_neg pe_int) (pv 9)) (pa_cons (pe_op op_add (pe_op op_add (pv 13) pe_int) (pv 9)) (pa_cons (pe_op op_powW pe_int pe_int) (pa_cons (pe_un un_neg (pe_op op_powW pe_int pe_int)) pa_nil)))))))) (pg_name (i := 14) sc_law.nd rfl (.inl rfl)) (pss_one (ps_if (pt_not (pt_val (pe_callS (ok_law_outside (base := base) T) (hr.mono (by decide)) (by rfl) T.g_law_outside T.F_law_outside.kp T.b_law_outside (fun σ => L2N.passAt (L2N.takes_of rfl rfl rfl rfl) σ) (pa_cons (pv 10) (pa_cons (pv 14) pa_nil))))) (pss_one (ps_ret pe_bl)) pss_nil)))))))
      (pss_cons (ps_for (passes_of rfl) rfl (pi_range1 (by rfl) T.z_range (pa_cons pe_int pa_nil)) (pg_name (i := 11) sc_law.nd rfl (.inl rfl)) (pss_one (ps_for (passes_of rfl) rfl (pi_list (pe_lst (pa_cons (pv 8) (pa_cons (pe_op op_rep_str (pv 5) pe_int) pa_nil)))) (pg_name (i := 15) sc_law.nd rfl (.inl rfl)) (pss_one (ps_if (PW.pt (pw_or (pt_not (pt_val (pe_callS (ok_law_refused (base := base) T) (hr.mono (by decide)) (by rfl) T.g_law_refused T.F_law_refused.kp T.b_law_refused (fun σ => L2N.passAt (L2N.takes_of rfl rfl rfl rfl) σ) (pa_cons (pv 15) (pa_cons (pv 11) (pa_cons pe_int pa_nil)))))) (pw_or1 (pt_not (pt_val (pe_callS (ok_law_refused (base := base) T) (hr.mono (by decide)) (by rfl) T.g_law_refused T.F_law_refused.kp T.b_law_refused (fun σ => L2N.passAt (L2N.takes_of rfl rfl rfl rfl) σ) (pa_cons (pv 15) (pa_cons (pv 11) (pa_cons pe_int pa_nil))))))))) (pss_one (ps_ret pe_bl)) pss_nil)))))
      (pss_one (ps_ret pe_bl)))))))))))))), ?_⟩
  generalize start N_law vs = σ at hE ⊢
  change wp (m_law script) _ _ at h
  unfold m_law at h
  refine uSeq (uAsg (uCallS (uCons ?_)))
  refine st_var hE (i := 0) rfl fun v hE => ?_
  refine uNil ?_
  refine st_call script hE rfl rfl h (fun e x I' H' cls d hm z => x _ H' cls d hm z.clear) fun t1 I H v hE h => ?_
  refine st_store (Γ' := [.im (script : Scr), .own (t1 : Src), .any, .any, .any, .any, .any, .any, .any, .any, .any, .any, .any, .any, .any, .any]) hE rfl (by decide : (1 : Nat) < 16) fun σ hE => ?_
  refine uSeq (uIf (uTest (uOp (uCallS (uCons ?_)))))
  refine st_varO (i := 1) hE rfl fun va h0_1 => ?_
  refine uCons ?_
  refine st_push hE (hf_c (a := (8 : Int)) rfl trivial) fun hE => ?_
  refine uNil ?_
  refine st_callO (i := 1) (8 : Int) rfl h0_1 hE rfl rfl h (fun e x I' H' cls d hm z => x _ H' cls d hm z.clear) fun t3 I H v hE h => ?_
  refine st_push hE (hf_c (a := (7 : Int)) rfl trivial) fun hE => ?_
  refine st_op2p hE hr_eqI fun v hE => ?_
  refine st_vb hE fun hE => ?_
  refine st_itej hE (fun (s : Src × Tx) => match s with | (source, word) => [.im (script : Scr), .own (source : Src), .any, .any, .any, .any, .any, .any, .any, .any, .any, .any, .im (word : Tx), .any, .any, .any]) h (fun h => ?_) (fun h => ?_) (fun s I H σ hE h => ?_)
  ·
    refine uAsg (uCallS (uCons ?_))
    refine st_varO (i := 1) hE rfl fun va h0_3 => ?_
    refine uCons ?_
    refine st_push hE (hf_c (a := (17 : Int)) rfl trivial) fun hE => ?_
    refine uCons ?_
    refine st_push hE (hf_c (a := (60 : Int)) rfl trivial) fun hE => ?_
    refine uNil ?_
    refine st_callO (i := 1) ((17 : Int), (60 : Int)) rfl h0_3 hE rfl rfl h (fun e x I' H' cls d hm z => x _ H' cls d hm z.clear) fun t5 I H v hE h => ?_
    refine st_store (Γ' := [.im (script : Scr), .own (t5.2 : Src), .any, .any, .any, .any, .any, .any, .any, .any, .any, .any, .im (t5.1 : Tx), .any, .any, .any]) hE rfl (by decide : (12 : Nat) < 16) fun σ hE => ?_
    exact h _ _ _ (hE.weak (Γ' := [.im (script : Scr), .own (t5.2 : Src), .any, .any, .any, .any, .any, .any, .any, .any, .any, .any, .im (t5.1 : Tx), .any, .any, .any]) ⟨.inr rfl, .inr rfl, .inl rfl, .inl rfl, .inl rfl, .inl rfl, .inl rfl, .inl rfl, .inl rfl, .inl rfl, .inl rfl, .inl rfl, .inr rfl, .inl rfl, .inl rfl, .inl rfl, trivial⟩)
  ·
    refine uAsg (uCallS (uCons ?_))
    refine st_varO (i := 1) hE rfl fun va h0_5 => ?_
    refine uCons ?_
    refine st_push hE (hf_c (a := (0 : Int)) rfl trivial) fun hE => ?_
    refine uCons ?_
    refine st_push hE (hf_c (a := (16 : Int)) rfl trivial) fun hE => ?_
    refine uNil ?_
    refine st_callO (i := 1) ((0 : Int), (16 : Int)) rfl h0_5 hE rfl rfl h (fun e x I' H' cls d hm z => x _ H' cls d hm z.clear) fun t7 I H v hE h => ?_
    refine st_store (Γ' := [.im (script : Scr), .own (t7.2 : Src), .any, .any, .any, .any, .any, .any, .any, .any, .any, .any, .im (t7.1 : Tx), .any, .any, .any]) hE rfl (by decide : (12 : Nat) < 16) fun σ hE => ?_
    exact h _ _ _ (hE.weak (Γ' := [.im (script : Scr), .own (t7.2 : Src), .any, .any, .any, .any, .any, .any, .any, .any, .any, .any, .im (t7.1 : Tx), .any, .any, .any]) ⟨.inr rfl, .inr rfl, .inl rfl, .inl rfl, .inl rfl, .inl rfl, .inl rfl, .inl rfl, .inl rfl, .inl rfl, .inl rfl, .inl rfl, .inr rfl, .inl rfl, .inl rfl, .inl rfl, trivial⟩)
  obtain ⟨source, word⟩ := s
  refine uSeq (uAsg (uCallS (uCons ?_)))
  refine st_varO (i := 1) hE rfl fun va h0_7 => ?_
  refine uCons ?_
  refine st_push hE (hf_c (a := (1 : Int)) rfl trivial) fun hE => ?_
  refine uCons ?_
  refine st_push hE (hf_c (a := (6 : Int)) rfl trivial) fun hE => ?_
  refine uNil ?_
  refine st_callO (i := 1) ((1 : Int), (6 : Int)) rfl h0_7 hE rfl rfl h (fun e x I' H' cls d hm z => x _ H' cls d hm z.clear) fun t9 I H v hE h => ?_
  refine st_store (Γ' := [.im (script : Scr), .own (t9.2 : Src), .im (t9.1 : Tx), .any, .any, .any, .any, .any, .any, .any, .any, .any, .im (word : Tx), .any, .any, .any]) hE rfl (by decide : (2 : Nat) < 16) fun σ hE => ?_
  refine uSeq (uAsg (uOp ?_))
  refine st_push hE (hf_c (a := (2 : Int)) rfl trivial) fun hE => ?_
  refine uCallS (uCons ?_)
  refine st_varO (i := 1) hE rfl fun va h0_9 => ?_
  refine uCons ?_
  refine st_push hE (hf_c (a := (3 : Int)) rfl trivial) fun hE => ?_
  refine uNil ?_
  refine st_callO (i := 1) (3 : Int) rfl h0_9 hE rfl rfl h (fun e x I' H' cls d hm z => x _ H' cls d hm z.clear.nip) fun t11 I H v hE h => ?_
  refine st_op2 hE hr_add h fun t12 v hE h => ?_
  refine st_store (Γ' := [.im (script : Scr), .own (t11.2 : Src), .im (t9.1 : Tx), .im (t12 : Int), .any, .any, .any, .any, .any, .any, .any, .any, .im (word : Tx), .any, .any, .any]) hE rfl (by decide : (3 : Nat) < 16) fun σ hE => ?_
  refine uSeq (uAsg (uOp ?_))
  refine st_pushm hE (hf_pp hr_repT (hf_var rfl) (hf_var rfl)) h fun t13 hE h => ?_
  refine uSl ?_
  refine st_push hE (hf_var rfl) fun hE => ?_
  refine st_bdp hE ho_none ?_
  refine uPart (uCallS (uCons ?_))
  refine st_varO (i := 1) hE rfl fun va h0_13 => ?_
  refine uCons ?_
  refine st_push hE (hf_c1p hc_lenT (hf_var rfl)) fun hE => ?_
  refine uNil ?_
  refine st_callO (i := 1) ((t9.1.length : Nat) : Int) rfl h0_13 hE rfl rfl h (fun e x I' H' cls d hm z => x _ H' cls d hm z.clear.nip.nip) fun t15 I H v hE h => ?_
  refine st_bd hE fun hE => ?_
  refine st_slT hE fun v hE => ?_
  refine st_op2 hE hr_catT h fun t16 v hE h => ?_
  refine st_store (Γ' := [.im (script : Scr), .own (t15.2 : Src), .im (t9.1 : Tx), .im (t12 : Int), .im (t16 : Tx), .any, .any, .any, .any, .any, .any, .any, .im (word : Tx), .any, .any, .any]) hE rfl (by decide : (4 : Nat) < 16) fun σ hE => ?_
  refine uSeq (uAsg (uOp ?_))
  refine st_push hE (hf_c (a := ([97, 98, 99, 100, 101, 102, 103, 104, 105, 106, 107, 108, 109, 110, 111, 112, 113, 114, 115, 116, 117, 118, 119, 120, 121, 122] : Tx)) (by decide +kernel) (by decide : (26 : Nat) ≤ line)) fun hE => ?_
  refine uCallS (uCons ?_)
  refine st_varO (i := 1) hE rfl fun va h0_16 => ?_
  refine uCons ?_
  refine st_push hE (hf_c (a := (26 : Int)) rfl trivial) fun hE => ?_
  refine uNil ?_
  refine st_callO (i := 1) (26 : Int) rfl h0_16 hE rfl rfl h (fun e x I' H' cls d hm z => x _ H' cls d hm z.clear.nip) fun t18 I H v hE h => ?_
  refine st_op2 hE hr_getT h fun t19 v hE h => ?_
  refine st_store (Γ' := [.im (script : Scr), .own (t18.2 : Src), .im (t9.1 : Tx), .im (t12 : Int), .im (t16 : Tx), .im (t19 : Tx), .any, .any, .any, .any, .any, .any, .im (word : Tx), .any, .any, .any]) hE rfl (by decide : (5 : Nat) < 16) fun σ hE => ?_
  refine uSeq (uAsg (uOp ?_))
  refine st_push hE (hf_c (a := ([96, 123, 65, 90, 48, 32, 45, 10] : Tx)) (by decide +kernel) (by decide : (8 : Nat) ≤ line)) fun hE => ?_
  refine uCallS (uCons ?_)
  refine st_varO (i := 1) hE rfl fun va h0_19 => ?_
  refine uCons ?_
  refine st_push hE (hf_c (a := (8 : Int)) rfl trivial) fun hE => ?_
  refine uNil ?_
  refine st_callO (i := 1) (8 : Int) rfl h0_19 hE rfl rfl h (fun e x I' H' cls d hm z => x _ H' cls d hm z.clear.nip) fun t21 I H v hE h => ?_
  refine st_op2 hE hr_getT h fun t22 v hE h => ?_
  refine st_store (Γ' := [.im (script : Scr), .own (t21.2 : Src), .im (t9.1 : Tx), .im (t12 : Int), .im (t16 : Tx), .im (t19 : Tx), .im (t22 : Tx), .any, .any, .any, .any, .any, .im (word : Tx), .any, .any, .any]) hE rfl (by decide : (6 : Nat) < 16) fun σ hE => ?_
  refine uSeq (uAsg (uCallS (uCons ?_)))
  refine st_varO (i := 1) hE rfl fun va h0_22 => ?_
  refine uCons ?_
  refine st_push hE (hf_pp hr_add (hf_c1p hc_lenT (hf_var rfl)) (hf_c (a := (1 : Int)) rfl trivial)) fun hE => ?_
  refine uNil ?_
  refine st_callO (i := 1) (((word.length : Nat) : Int) + (1 : Int)) rfl h0_22 hE rfl rfl h (fun e x I' H' cls d hm z => x _ H' cls d hm z.clear) fun t24 I H v hE h => ?_
  refine st_store (Γ' := [.im (script : Scr), .own (t24.2 : Src), .im (t9.1 : Tx), .im (t12 : Int), .im (t16 : Tx), .im (t19 : Tx), .im (t22 : Tx), .im (t24.1 : Int), .any, .any, .any, .any, .im (word : Tx), .any, .any, .any]) hE rfl (by decide : (7 : Nat) < 16) fun σ hE => ?_
  refine uSeq ?_
  refine st_setm (Γ' := fun (bad : Tx) => [.im (script : Scr), .own (t24.2 : Src), .im (t9.1 : Tx), .im (t12 : Int), .im (t16 : Tx), .im (t19 : Tx), .im (t22 : Tx), .im (t24.1 : Int), .im (bad : Tx), .any, .any, .any, .im (word : Tx), .any, .any, .any]) hE (hf_mp (fun _ => hr_catT) (hf_pp hr_catT (hf_cut_p (hf_var rfl) ho_none (ho_p (hf_var rfl))) (hf_var rfl)) (hf_cut_p (hf_var rfl) (ho_p (hf_var rfl)) ho_none)) h (fun _ => rfl) (by decide : (8 : Nat) < 16) fun bad σ hE h => ?_
  refine uSeq (uAsg (uCallS (uCons ?_)))
  refine st_varO (i := 1) hE rfl fun va h0_25 => ?_
  refine uCons ?_
  refine st_push hE (hf_c (a := (1000 : Int)) rfl trivial) fun hE => ?_
  refine uNil ?_
  refine st_callO (i := 1) (1000 : Int) rfl h0_25 hE rfl rfl h (fun e x I' H' cls d hm z => x _ H' cls d hm z.clear) fun t27 I H v hE h => ?_
  refine st_store (Γ' := [.im (script : Scr), .own (t27.2 : Src), .im (t9.1 : Tx), .im (t12 : Int), .im (t16 : Tx), .im (t19 : Tx), .im (t22 : Tx), .im (t24.1 : Int), .im (bad : Tx), .im (t27.1 : Int), .any, .any, .im (word : Tx), .any, .any, .any]) hE rfl (by decide : (9 : Nat) < 16) fun σ hE => ?_
  refine uSeq (uFor (uList (uLst (uCons ?_))))
  refine st_push hE (hf_var rfl) fun hE => ?_
  refine uCons ?_
  refine st_push hE (hf_var rfl) fun hE => ?_
  refine uCons ?_
  refine st_push hE (hf_var rfl) fun hE => ?_
  refine uCons ?_
  refine st_pushm hE (hf_pp hr_repT (hf_var rfl) (hf_c (a := (60 : Int)) rfl trivial)) h fun t28 hE h => ?_
  refine uCons ?_
  refine st_push hE (hf_var rfl) fun hE => ?_
  refine uCons ?_
  refine st_push hE (hf_c (a := ([] : Tx)) (by decide +kernel) (by decide : (0 : Nat) ≤ line)) fun hE => ?_
  refine uNil ?_
  refine st_lstI (α := Tx) _ [word, t16, word, t28, t19, ([] : Tx)] rfl (by decide : (6 : Nat) ≤ line) hE fun I H v hE => ?_
  refine it_list hE fun ja hJ => ?_
  refine st_for (α := Tx) hJ (RetP K ρ Θ (fun b => .im b) Q) (fun (_ : Unit) => [.im (script : Scr), .own (t27.2 : Src), .im (t9.1 : Tx), .im (t12 : Int), .im (t16 : Tx), .im (t19 : Tx), .im (t22 : Tx), .im (t24.1 : Int), .im (bad : Tx), .im (t27.1 : Int), .any, .any, .im (word : Tx), .any, .any, .any]) hE ⟨.inr rfl, .inr rfl, .inr rfl, .inr rfl, .inr rfl, .inr rfl, .inr rfl, .inr rfl, .inr rfl, .inr rfl, .inl rfl, .inl rfl, .inr rfl, .inl rfl, .inl rfl, .inl rfl, trivial⟩ h (fun r h => h) (fun asked s I H σ v N B hE h => ?_) (fun s I H σ hE h => ?_)
  ·
    refine st_store (Γ' := [.im (script : Scr), .own (t27.2 : Src), .im (t9.1 : Tx), .im (t12 : Int), .im (t16 : Tx), .im (t19 : Tx), .im (t22 : Tx), .im (t24.1 : Int), .im (bad : Tx), .im (t27.1 : Int), .im (asked : Tx), .any, .im (word : Tx), .any, .any, .any]) hE rfl (by decide : (10 : Nat) < 16) fun σ hE => ?_
    refine uSeq (uIf (uNot (uB (uCallS (uCons ?_)))))
    refine st_push hE (hf_var rfl) fun hE => ?_
    refine uNil ?_
    refine st_call asked hE rfl rfl h (fun e x I' H' cls d hm z => x _ H' cls d hm z.clear.nip) fun t29 I H v hE h => ?_
    refine st_vb hE fun hE => ?_
    refine st_ite h (fun h => ?_) (fun h => ?_)
    ·
      exact st_ret hE.pop (hf_c (a := false) rfl trivial) h
    ·
      refine uNext (uSeq ?_)
      refine st_setm (Γ' := fun (size : Int) => [.im (script : Scr), .own (t27.2 : Src), .im (t9.1 : Tx), .im (t12 : Int), .im (t16 : Tx), .im (t19 : Tx), .im (t22 : Tx), .im (t24.1 : Int), .im (bad : Tx), .im (t27.1 : Int), .im (asked : Tx), .any, .im (word : Tx), .im (size : Int), .any, .any]) hE (hf_c1p hc_lenT (hf_var rfl)) h (fun _ => rfl) (by decide : (13 : Nat) < 16) fun size σ hE h => ?_
      refine uFor (uList (uLst (uCons ?_)))
      refine st_push hE (hf_c (a := (0 : Int)) rfl trivial) fun hE => ?_
      refine uCons ?_
      refine st_push hE (hf_var rfl) fun hE => ?_
      refine uCons ?_
      refine st_push hE (hf_pp hr_sub (hf_up hu_neg (hf_c (a := (1 : Int)) rfl trivial)) (hf_var rfl)) fun hE => ?_
      refine uCons ?_
      refine st_push hE (hf_pp hr_add (hf_pp hr_add (hf_var rfl) (hf_c (a := (1 : Int)) rfl trivial)) (hf_var rfl)) fun hE => ?_
      refine uCons ?_
      refine st_push hE (hf_is (m := (powI (10 : Int) (39 : Int))) (m' := .ok (1000000000000000000000000000000000000000 : Int)) (hf_pp hr_pow (hf_c (a := (10 : Int)) rfl trivial) (hf_c (a := (39 : Int)) rfl trivial)) (by decide +kernel)) fun hE => ?_
      refine uCons ?_
      refine st_push hE (hf_up hu_neg (hf_is (m := (powI (10 : Int) (39 : Int))) (m' := .ok (1000000000000000000000000000000000000000 : Int)) (hf_pp hr_pow (hf_c (a := (10 : Int)) rfl trivial) (hf_c (a := (39 : Int)) rfl trivial)) (by decide +kernel))) fun hE => ?_
      refine uNil ?_
      refine st_lstI (α := Int) _ [(0 : Int), size, ((-(1 : Int)) - t27.1), ((size + (1 : Int)) + t27.1), (1000000000000000000000000000000000000000 : Int), (-(1000000000000000000000000000000000000000 : Int))] rfl (by decide : (6 : Nat) ≤ line) hE fun I H v hE => ?_
      refine it_list hE fun ja hJ => ?_
      refine st_for (α := Int) hJ (RetP K ρ Θ (fun b => .im b) Q) (fun (_ : Unit) => [.im (script : Scr), .own (t27.2 : Src), .im (t9.1 : Tx), .im (t12 : Int), .im (t16 : Tx), .im (t19 : Tx), .im (t22 : Tx), .im (t24.1 : Int), .im (bad : Tx), .im (t27.1 : Int), .im (asked : Tx), .any, .im (word : Tx), .im (size : Int), .any, .any]) hE ⟨.inr rfl, .inr rfl, .inr rfl, .inr rfl, .inr rfl, .inr rfl, .inr rfl, .inr rfl, .inr rfl, .inr rfl, .inr rfl, .inl rfl, .inr rfl, .inr rfl, .inl rfl, .inl rfl, trivial⟩ h (fun r h => h) (fun cut s I H σ v N B hE h => ?_) (fun s I H σ hE h => ?_)
      ·
        refine st_store (Γ' := [.im (script : Scr), .own (t27.2 : Src), .im (t9.1 : Tx), .im (t12 : Int), .im (t16 : Tx), .im (t19 : Tx), .im (t22 : Tx), .im (t24.1 : Int), .im (bad : Tx), .im (t27.1 : Int), .im (asked : Tx), .any, .im (word : Tx), .im (size : Int), .im (cut : Int), .any]) hE rfl (by decide : (14 : Nat) < 16) fun σ hE => ?_
        refine uIf (uNot (uB (uCallS (uCons ?_))))
        refine st_push hE (hf_var rfl) fun hE => ?_
        refine uCons ?_
        refine st_push hE (hf_var rfl) fun hE => ?_
        refine uNil ?_
        refine st_call (asked, cut) hE rfl rfl h (fun e x I' H' cls d hm z => x _ H' cls d hm z.clear.nip.nip) fun t30 I H v hE h => ?_
        refine st_vb hE fun hE => ?_
        refine st_ite h (fun h => ?_) (fun h => ?_)
        ·
          exact st_ret hE.pop.pop (hf_c (a := false) rfl trivial) h
        ·
          refine uNext ?_
          exact h _ _ _ (hE.weak (Γ' := [.im (script : Scr), .own (t27.2 : Src), .im (t9.1 : Tx), .im (t12 : Int), .im (t16 : Tx), .im (t19 : Tx), .im (t22 : Tx), .im (t24.1 : Int), .im (bad : Tx), .im (t27.1 : Int), .im (asked : Tx), .any, .im (word : Tx), .im (size : Int), .any, .any]) ⟨.inr rfl, .inr rfl, .inr rfl, .inr rfl, .inr rfl, .inr rfl, .inr rfl, .inr rfl, .inr rfl, .inr rfl, .inr rfl, .inl rfl, .inr rfl, .inr rfl, .inl rfl, .inl rfl, trivial⟩)
      exact h _ _ _ (hE.weak (Γ' := [.im (script : Scr), .own (t27.2 : Src), .im (t9.1 : Tx), .im (t12 : Int), .im (t16 : Tx), .im (t19 : Tx), .im (t22 : Tx), .im (t24.1 : Int), .im (bad : Tx), .im (t27.1 : Int), .any, .any, .im (word : Tx), .any, .any, .any]) ⟨.inr rfl, .inr rfl, .inr rfl, .inr rfl, .inr rfl, .inr rfl, .inr rfl, .inr rfl, .inr rfl, .inr rfl, .inl rfl, .inl rfl, .inr rfl, .inl rfl, .inl rfl, .inl rfl, trivial⟩)
  refine uSeq (uFor ?_)
  refine it_rng1 hE (hf_c (a := (3 : Int)) rfl trivial) h fun xs33 h J hJ => ?_
  refine st_for (α := Int) hJ (RetP K ρ Θ (fun b => .im b) Q) (fun (_ : Unit) => [.im (script : Scr), .own (t27.2 : Src), .im (t9.1 : Tx), .im (t12 : Int), .im (t16 : Tx), .im (t19 : Tx), .im (t22 : Tx), .im (t24.1 : Int), .im (bad : Tx), .im (t27.1 : Int), .any, .any, .im (word : Tx), .any, .any, .any]) hE ⟨.inr rfl, .inr rfl, .inr rfl, .inr rfl, .inr rfl, .inr rfl, .inr rfl, .inr rfl, .inr rfl, .inr rfl, .inl rfl, .inl rfl, .inr rfl, .inl rfl, .inl rfl, .inl rfl, trivial⟩ h (fun r h => h) (fun which s I H σ v N B hE h => ?_) (fun s I H σ hE h => ?_)
  ·
    refine st_store (Γ' := [.im (script : Scr), .own (t27.2 : Src), .im (t9.1 : Tx), .im (t12 : Int), .im (t16 : Tx), .im (t19 : Tx), .im (t22 : Tx), .im (t24.1 : Int), .im (bad : Tx), .im (t27.1 : Int), .any, .im (which : Int), .im (word : Tx), .any, .any, .any]) hE rfl (by decide : (11 : Nat) < 16) fun σ hE => ?_
    refine uFor (uList (uLst (uCons ?_)))
    refine st_push hE (hf_var rfl) fun hE => ?_
    refine uCons ?_
    refine st_pushm hE (hf_pp hr_repT (hf_var rfl) (hf_c (a := (61 : Int)) rfl trivial)) h fun t34 hE h => ?_
    refine uNil ?_
    refine st_lstI (α := Tx) _ [bad, t34] rfl (by decide : (2 : Nat) ≤ line) hE fun I H v hE => ?_
    refine it_list hE fun ja hJ => ?_
    refine st_for (α := Tx) hJ (RetP K ρ Θ (fun b => .im b) Q) (fun (_ : Unit) => [.im (script : Scr), .own (t27.2 : Src), .im (t9.1 : Tx), .im (t12 : Int), .im (t16 : Tx), .im (t19 : Tx), .im (t22 : Tx), .im (t24.1 : Int), .im (bad : Tx), .im (t27.1 : Int), .any, .im (which : Int), .im (word : Tx), .any, .any, .any]) hE ⟨.inr rfl, .inr rfl, .inr rfl, .inr rfl, .inr rfl, .inr rfl, .inr rfl, .inr rfl, .inr rfl, .inr rfl, .inl rfl, .inr rfl, .inr rfl, .inl rfl, .inl rfl, .inl rfl, trivial⟩ h (fun r h => h) (fun text s I H σ v N B hE h => ?_) (fun s I H σ hE h => ?_)
    ·
      refine st_store (Γ' := [.im (script : Scr), .own (t27.2 : Src), .im (t9.1 : Tx), .im (t12 : Int), .im (t16 : Tx), .im (t19 : Tx), .im (t22 : Tx), .im (t24.1 : Int), .im (bad : Tx), .im (t27.1 : Int), .any, .im (which : Int), .im (word : Tx), .any, .any, .im (text : Tx)]) hE rfl (by decide : (15 : Nat) < 16) fun σ hE => ?_
      refine uIf ?_
      refine st_tj hE (fun (s : Unit) => [.im (script : Scr), .own (t27.2 : Src), .im (t9.1 : Tx), .im (t12 : Int), .im (t16 : Tx), .im (t19 : Tx), .im (t22 : Tx), .im (t24.1 : Int), .im (bad : Tx), .im (t27.1 : Int), .any, .im (which : Int), .im (word : Tx), .any, .any, .im (text : Tx)]) h (fun h => ?_) (fun b37 s I H hE h => ?_)
      ·
        refine uOr (uNot (uB (uCallS (uCons ?_))))
        refine st_push hE (hf_var rfl) fun hE => ?_
        refine uCons ?_
        refine st_push hE (hf_var rfl) fun hE => ?_
        refine uCons ?_
        refine st_push hE (hf_c (a := (1 : Int)) rfl trivial) fun hE => ?_
        refine uNil ?_
        refine st_call (text, which, (1 : Int)) hE rfl rfl h (fun e x I' H' cls d hm z => x _ H' cls d hm z.clear.nip) fun t35 I H v hE h => ?_
        refine st_vb hE fun hE => ?_
        refine st_ite h (fun h => ?_) (fun h => ?_)
        ·
          exact h _ _ hE
        ·
          refine uNot (uB (uCallS (uCons ?_)))
          refine st_push hE (hf_var rfl) fun hE => ?_
          refine uCons ?_
          refine st_push hE (hf_var rfl) fun hE => ?_
          refine uCons ?_
          refine st_push hE (hf_c (a := (0 : Int)) rfl trivial) fun hE => ?_
          refine uNil ?_
          refine st_call (text, which, (0 : Int)) hE rfl rfl h (fun e x I' H' cls d hm z => x _ H' cls d hm z.clear.nip) fun t36 I H v hE h => ?_
          refine st_vb hE fun hE => ?_
          exact h _ _ hE
      refine st_ite h (fun h => ?_) (fun h => ?_)
      ·
        exact st_ret hE.pop (hf_c (a := false) rfl trivial) h
      ·
        refine uNext ?_
        exact h _ _ _ (hE.weak (Γ' := [.im (script : Scr), .own (t27.2 : Src), .im (t9.1 : Tx), .im (t12 : Int), .im (t16 : Tx), .im (t19 : Tx), .im (t22 : Tx), .im (t24.1 : Int), .im (bad : Tx), .im (t27.1 : Int), .any, .im (which : Int), .im (word : Tx), .any, .any, .any]) ⟨.inr rfl, .inr rfl, .inr rfl, .inr rfl, .inr rfl, .inr rfl, .inr rfl, .inr rfl, .inr rfl, .inr rfl, .inl rfl, .inr rfl, .inr rfl, .inl rfl, .inl rfl, .inl rfl, trivial⟩)
    exact h _ _ _ (hE.weak (Γ' := [.im (script : Scr), .own (t27.2 : Src), .im (t9.1 : Tx), .im (t12 : Int), .im (t16 : Tx), .im (t19 : Tx), .im (t22 : Tx), .im (t24.1 : Int), .im (bad : Tx), .im (t27.1 : Int), .any, .any, .im (word : Tx), .any, .any, .any]) ⟨.inr rfl, .inr rfl, .inr rfl, .inr rfl, .inr rfl, .inr rfl, .inr rfl, .inr rfl, .inr rfl, .inr rfl, .inl rfl, .inl rfl, .inr rfl, .inl rfl, .inl rfl, .inl rfl, trivial⟩)
  exact st_ret hE (hf_c (a := true) rfl trivial) h
end
end G
/-! the source of draws and the drawn words (laws k46 to k57) -/
namespace G
open PySem L2 M
def SrcOk (N : Nat) (s : Src) : Prop := (∀ c ∈ s.cells, 0 ≤ c) ∧ 0 ≤ s.seed ∧ s.seed < 2147483647 ∧ 0 ≤ s.n ∧ s.n ≤ N
theorem SrcOk.mono {N M : Nat} {s : Src} (h : SrcOk N s) (l : N ≤ M) : SrcOk M s := ⟨h.1, h.2.1, h.2.2.1, h.2.2.2.1, by have := h.2.2.2.2; omega⟩
theorem draw_ok {N : Nat} {s : Src} {size : Int} (h : SrcOk N s) (hN : N < 1000000) (h1 : 0 < size) (h2 : size < 2 ^ 1000) : ∃ d s', m_law_draw s size = .ok (d, s') ∧ 0 ≤ d ∧ d < size ∧ SrcOk (N + 1) s' := by
  obtain ⟨cells, seed, n⟩ := s
  obtain ⟨hc, hs0, hs1, hn0, hn1⟩ := h
  dsimp only at hc hs0 hs1 hn0 hn1
  unfold m_law_draw
  cases cells with
  | cons c cs =>
    have hc0 := hc c List.mem_cons_self
    have e0 : lGet (c :: cs) (0 : Int) = .ok c := lGet_nat (xs := c :: cs) (k := 0) (by simp)
    have e1 : lSet (c :: cs) (0 : Int) (c / size) = .ok ((c / size) :: cs) := lSet_nat (xs := c :: cs) (k := 0) (by simp)
    have e2 : lGet ((c / size) :: cs) (0 : Int) = .ok (c / size) := lGet_nat (xs := (c / size) :: cs) (k := 0) (by simp)
    have hd0 := Int.emod_nonneg c (by omega : size ≠ 0)
    have hd1 := Int.emod_lt_of_pos c h1
    have hq : 0 ≤ c / size := Int.ediv_nonneg hc0 (by omega)
    dsimp only
    rw [if_pos (show (!List.isEmpty (c :: cs)) = true from rfl)]
    simp only [e0, Res.bind_ok, modI_ok h1, divI_ok h1 h2, e1, e2]
    by_cases hz : c / size = 0
    · rw [if_pos (decide_eq_true hz), lPopAt0]
      exact ⟨_, _, rfl, hd0, hd1, fun x hx => hc x (List.mem_cons_of_mem _ hx), hs0, hs1, hn0, by show n ≤ ((N + 1 : Nat) : Int); omega⟩
    · rw [if_neg (by simpa using hz)]
      refine ⟨_, _, rfl, hd0, hd1, fun x hx => ?_, hs0, hs1, hn0, by show n ≤ ((N + 1 : Nat) : Int); omega⟩
      rcases List.mem_cons.mp hx with e | e
      · rw [e]; exact hq
      · exact hc x (List.mem_cons_of_mem _ e)
  | nil =>
    dsimp only
    rw [if_neg (show ¬ (!List.isEmpty ([] : List Int)) = true by decide)]
    have m1 : ∀ x : Int, 0 ≤ x % 2147483647 ∧ x % 2147483647 < 2147483647 := fun x => ⟨Int.emod_nonneg _ (by decide), Int.emod_lt_of_pos _ (by decide)⟩
    have m2 : ∀ x : Int, 0 ≤ x % 2147483399 ∧ x % 2147483399 < 2147483399 := fun x => ⟨Int.emod_nonneg _ (by decide), Int.emod_lt_of_pos _ (by decide)⟩
    have big : ∀ x : Int, 0 ≤ x → x < 2147483647 → x.natAbs < 2 ^ 1000 := fun x a b => Nat.lt_of_lt_of_le (by omega : x.natAbs < 2147483647) (by decide)
    have a1 := m1 (seed * 48271 + (n + 1) * 69621 + 11)
    generalize hf : (seed * 48271 + (n + 1) * 69621 + 11) % 2147483647 = f at a1
    have a2 := m2 (f * f + (n + 1))
    generalize hg : (f * f + (n + 1)) % 2147483399 = g at a2
    rw [mulI_ok (big _ hs0 hs1) (by decide), mulI_ok (big (n + 1) (by omega) (by omega)) (by decide)]
    simp only [Res.bind_ok, modI_ok (show (0 : Int) < 2147483647 by decide), hf]
    rw [mulI_ok (big _ a1.1 a1.2) (big _ a1.1 a1.2)]
    simp only [Res.bind_ok, modI_ok (show (0 : Int) < 2147483399 by decide), hg]
    rw [mulI_ok (big _ a2.1 (by omega)) (big _ a2.1 (by omega))]
    simp only [Res.bind_ok, modI_ok (show (0 : Int) < 2147483249 by decide), divI_ok (show (0 : Int) < 11 by decide) (by decide), modI_ok h1]
    exact ⟨_, _, rfl, Int.emod_nonneg _ (by omega), Int.emod_lt_of_pos _ h1, hc, hs0, hs1, by show 0 ≤ n + 1; omega, by show n + 1 ≤ ((N + 1 : Nat) : Int); omega⟩
def seed0 : Int := 279
theorem source_ok (ns : List Int) (h : ns.length ≤ 63) : ∃ s, m_law_source ⟨ns⟩ = .ok s ∧ SrcOk 0 s := by
  unfold m_law_source
  have ecut : cutL ns none (some (63 : Int)) = ns := by
    have := cut_to ns 63
    rw [List.take_of_length_le h] at this
    exact this
  dsimp only
  rw [ecut]
  generalize hB : (1000000000000000000000000000000000000000000000000000000000000000000000000000000000000000000000000000000000000000000000000000000000000000000000000000000000000000000000000000000000000000000000000000000000000000000000000000000000000000000000000000000000000000000000000000000000000000000000000000000000000000000000000000000000000000000000000000000000000000000000000 : Int) = B
  have hB0 : 0 < B := by rw [← hB]; decide
  rw [lcM_ok (g := fun cell => (if cell < 0 then -cell else cell) % B) (by omega) (fun x _ => by rw [modI_ok hB0]; rfl), Res.bind_ok, Res.bind_ok]
  have hc : ∀ c ∈ ns.map (fun cell => (if cell < 0 then -cell else cell) % B), 0 ≤ c := fun c hc => by
    obtain ⟨x, _, rfl⟩ := List.mem_map.mp hc
    exact Int.emod_nonneg _ (by omega)
  have hl : (ns.map (fun cell => (if cell < 0 then -cell else cell) % B)).length = ns.length := List.length_map _
  generalize ns.map (fun cell => (if cell < 0 then -cell else cell) % B) = cells at hc hl
  obtain ⟨sd, e, hs⟩ := forS_inv (xs := cells) (f := fun (cell : Int) (s : Int) => match s with | seed => Res.bind (Res.bind (Res.bind (Res.bind (Res.bind (mulI seed (1009 : Int)) fun (t3 : Int) => Res.bind (modI cell (1000003 : Int)) fun (t4 : Int) => (.ok (t3 + t4))) fun (t5 : Int) => (.ok (t5 + (1 : Int)))) fun (t6 : Int) => .ok t6) fun (t7 : Int) => (modI t7 (2147483647 : Int))) fun (seed : Int) => .ok seed)
    (fun _ s => 0 ≤ s ∧ s < 2147483647) (s := seed0 + ((cells.length : Nat) : Int)) (k := 0) (by unfold seed0; omega) fun k s x hx _ hs => by
      have big : s.natAbs < 2 ^ 1000 := Nat.lt_of_lt_of_le (by omega : s.natAbs < 2147483647) (by decide)
      dsimp only
      rw [mulI_ok big (by decide)]
      simp only [Res.bind_ok, modI_ok (show (0 : Int) < 1000003 by decide), modI_ok (show (0 : Int) < 2147483647 by decide)]
      exact ⟨_, rfl, Int.emod_nonneg _ (by decide), Int.emod_lt_of_pos _ (by decide)⟩
  unfold seed0 at e
  rw [e, Res.bind_ok]
  rw [lcR_ok (p := fun c => decide (c ≥ 1000000000000000000)) (g := fun c => c) (by omega) (fun _ _ => rfl) (fun _ _ => rfl), Res.bind_ok]
  refine ⟨_, rfl, fun c h => ?_, hs.1, hs.2, Int.le_refl 0, Int.le_refl 0⟩
  have h : c ∈ List.map (fun c => c) (List.filter (fun c => decide (c ≥ 1000000000000000000)) cells) := h
  rw [List.map_id'] at h
  exact hc c (List.mem_filter.mp h).1
/-! words -/
def WOk (w : Tx) : Prop := ∀ c ∈ w, 97 ≤ c ∧ c ≤ 122
theorem wok_app {a b : Tx} (ha : WOk a) (hb : WOk b) : WOk (a ++ b) := fun c hc => (List.mem_append.mp hc).elim (ha c) (hb c)
theorem wok_sub {a b : Tx} (ha : WOk a) (h : ∀ c ∈ b, c ∈ a) : WOk b := fun c hc => ha c (h c hc)
theorem wok_take {a : Tx} (ha : WOk a) (n : Nat) : WOk (a.take n) := wok_sub ha fun _ h => List.mem_of_mem_take h
theorem wok_drop {a : Tx} (ha : WOk a) (n : Nat) : WOk (a.drop n) := wok_sub ha fun _ h => List.mem_of_mem_drop h
def abc : Tx := [97, 98, 99, 100, 101, 102, 103, 104, 105, 106, 107, 108, 109, 110, 111, 112, 113, 114, 115, 116, 117, 118, 119, 120, 121, 122]
theorem abc_get {i : Int} (h0 : 0 ≤ i) (h1 : i < 26) : ∃ c, xGet abc i = .ok [c] ∧ 97 ≤ c ∧ c ≤ 122 := by
  have hl : i.toNat < abc.length := by show i.toNat < 26; omega
  refine ⟨abc[i.toNat], xGet_int h0 hl, ?_⟩
  have h : ∀ k : Fin 26, 97 ≤ abc[k.val]'(by show k.val < 26; exact k.isLt) ∧ abc[k.val]'(by show k.val < 26; exact k.isLt) ≤ 122 := by decide
  exact h ⟨i.toNat, by omega⟩
theorem spread_ok {i : Int} (h0 : 0 ≤ i) (h1 : i < 6) : ∃ t, lGet [(2 : Int), (2 : Int), (3 : Int), (3 : Int), (4 : Int), (26 : Int)] i = .ok t ∧ 0 < t ∧ t ≤ 26 := by
  have hl : i.toNat < [(2 : Int), (2 : Int), (3 : Int), (3 : Int), (4 : Int), (26 : Int)].length := by show i.toNat < 6; omega
  refine ⟨_, lGet_int h0 hl, ?_⟩
  have h : ∀ k : Fin 6, 0 < [(2 : Int), (2 : Int), (3 : Int), (3 : Int), (4 : Int), (26 : Int)][k.val]'(by show k.val < 6; exact k.isLt) ∧ [(2 : Int), (2 : Int), (3 : Int), (3 : Int), (4 : Int), (26 : Int)][k.val]'(by show k.val < 6; exact k.isLt) ≤ 26 := by decide
  exact h ⟨i.toNat, by omega⟩
theorem word_ok {N : Nat} {s : Src} {low high : Int} (h : SrcOk N s) (hN : N < 900000) (h0 : 0 ≤ low) (h1 : low ≤ high) (h2 : high ≤ 60) :
    ∃ w s', m_law_word s low high = .ok (w, s') ∧ WOk w ∧ low ≤ (w.length : Int) ∧ (w.length : Int) ≤ high ∧ SrcOk (N + 200) s' := by
  have sm : ∀ x : Int, x ≤ 1000000 → x < 2 ^ 1000 := fun x hx => Int.lt_of_le_of_lt hx (by decide +kernel)
  unfold m_law_word
  rw [Res.bind_ok]
  obtain ⟨d1, s1, e1, a1, b1, k1⟩ := draw_ok (size := high - low + 1) h (by omega) (by omega) (sm _ (by omega))
  rw [e1, Res.bind_ok, Res.bind_ok]
  obtain ⟨d2, s2, e2, a2, b2, k2⟩ := draw_ok (size := 6) k1 (by omega) (by omega) (sm _ (by omega))
  dsimp only
  rw [e2, Res.bind_ok]
  obtain ⟨sp, e3, c3, d3⟩ := spread_ok a2 b2
  dsimp only
  rw [e3, Res.bind_ok]
  obtain ⟨d4, s4, e4, a4, b4, k4⟩ := draw_ok (size := 26) k2 (by omega) (by omega) (sm _ (by omega))
  rw [e4, Res.bind_ok, Res.bind_ok, rngR_ok (rgOk (by omega) (by omega) (by omega) (by omega)), Res.bind_ok]
  dsimp only
  have hsz : ∃ sz : Nat, low + d1 = (sz : Int) ∧ sz ≤ 60 := ⟨(low + d1).toNat, by omega, by omega⟩
  obtain ⟨sz, esz, hsz⟩ := hsz
  rw [esz]
  refine forS_use (fun r => ∃ w s', r = .ok (w, s') ∧ WOk w ∧ low ≤ (w.length : Int) ∧ (w.length : Int) ≤ high ∧ SrcOk (N + 200) s')
    (fun k (s : Src × Tx) => SrcOk (N + 3 + 2 * k) s.1 ∧ WOk s.2 ∧ s.2.length ≤ 70 ∧ min k sz ≤ s.2.length ∧ k ≤ 60) ⟨k4.mono (by omega), fun c hc => by simp at hc, Nat.zero_le _, by simp, Nat.zero_le _⟩ ?_ ?_
  · rintro k ⟨src, w⟩ x hx hk ⟨i1, i2, i3, i4, i5⟩
    dsimp only at i1 i2 i3 i4 i5 ⊢
    have i4 : min k sz ≤ w.length := i4
    have hk : k + 1 ≤ 60 := by rw [rng_len] at hk; exact hk
    by_cases hlt : ((w.length : Nat) : Int) < (sz : Int)
    · rw [if_pos (decide_eq_true hlt)]
      obtain ⟨d5, s5, e5, a5, b5, k5⟩ := draw_ok (size := 8) i1 (by omega) (by omega) (sm _ (by omega))
      rw [e5, Res.bind_ok]
      dsimp only
      by_cases hd : (decide (d5 < (5 : Int)) || decide (((w.length : Nat) : Int) < (2 : Int))) = true
      · rw [if_pos hd]
        obtain ⟨d6, s6, e6, a6, b6, k6⟩ := draw_ok (size := sp) k5 (by omega) c3 (sm _ (by omega))
        rw [e6, Res.bind_ok, Res.bind_ok, modI_ok (by decide : (0 : Int) < 26), Res.bind_ok]
        dsimp only
        obtain ⟨c, ec, hc⟩ := abc_get (i := (d4 + d6) % 26) (Int.emod_nonneg _ (by decide)) (Int.emod_lt_of_pos _ (by decide))
        have ec' : xGet ([97, 98, 99, 100, 101, 102, 103, 104, 105, 106, 107, 108, 109, 110, 111, 112, 113, 114, 115, 116, 117, 118, 119, 120, 121, 122] : Tx) ((d4 + d6) % 26) = .ok [c] := ec
        rw [ec', Res.bind_ok, xCat_ok (by simp; omega), Res.bind_ok, Res.bind_ok, Res.bind_ok]
        refine ⟨_, rfl, k6.mono (by omega), wok_app i2 (fun c' hc' => by rw [List.mem_singleton.mp hc']; exact hc), ?_, ?_, hk⟩
        · show (w ++ [c]).length ≤ 70
          rw [List.length_append]; simp; omega
        · show min (k + 1) sz ≤ (w ++ [c]).length
          rw [List.length_append]; simp; omega
      · rw [if_neg hd]
        have hd2 : 2 ≤ w.length := by
          simp only [Bool.or_eq_true, decide_eq_true_eq] at hd
          omega
        obtain ⟨d6, s6, e6, a6, b6, k6⟩ := draw_ok (size := 8) k5 (by omega) (by omega) (sm _ (by omega))
        rw [e6, Res.bind_ok, Res.bind_ok]
        dsimp only
        obtain ⟨bk, ebk, hb1, hb2⟩ : ∃ bk : Nat, 1 + d6 = (bk : Int) ∧ 1 ≤ bk ∧ bk ≤ 8 := ⟨(1 + d6).toNat, by omega, by omega, by omega⟩
        rw [ebk, cut_last w bk (by omega), cut_to]
        have l1 : (w.drop (w.length - bk)).length = min bk w.length := by rw [List.length_drop]; omega
        have l2 : (w.take bk).length = min bk w.length := List.length_take
        have fin : ∀ t : Tx, WOk t → t.length = min bk w.length → xCat w t = .ok (w ++ t) ∧ SrcOk (N + 3 + 2 * (k + 1)) s6 ∧ WOk (w ++ t) ∧ (w ++ t).length ≤ 70 ∧ min (k + 1) sz ≤ (w ++ t).length ∧ k + 1 ≤ 60 := fun t ht hl =>
          ⟨xCat_ok (by rw [hl]; omega), k6.mono (by omega), wok_app i2 ht, by rw [List.length_append, hl]; omega, by rw [List.length_append, hl]; omega, hk⟩
        by_cases h5 : d5 = 5
        · rw [if_pos (decide_eq_true h5)]
          obtain ⟨x1, x2⟩ := fin (w.drop (w.length - bk)) (wok_drop i2 _) l1
          rw [x1]
          exact ⟨_, rfl, x2⟩
        · rw [if_neg (by simpa using h5)]
          by_cases h6 : d5 = 6
          · rw [if_pos (decide_eq_true h6)]
            obtain ⟨x1, x2⟩ := fin (w.drop (w.length - bk)).reverse (wok_sub (wok_drop i2 (w.length - bk)) fun _ h => List.mem_reverse.mp h) (by rw [List.length_reverse]; exact l1)
            rw [x1]
            exact ⟨_, rfl, x2⟩
          · rw [if_neg (by simpa using h6)]
            obtain ⟨x1, x2⟩ := fin (w.take bk) (wok_take i2 _) l2
            rw [x1]
            exact ⟨_, rfl, x2⟩
    · rw [if_neg (by simpa using hlt)]
      exact ⟨_, rfl, i1.mono (by omega), i2, i3, (by show min (k + 1) sz ≤ w.length; omega), hk⟩
  · rintro ⟨src, w⟩ ⟨i1, i2, i3, i4, i5⟩
    dsimp only at i1 i2 i3 i4 i5 ⊢
    have hl : (rng 0 60).length = 60 := by rw [rng_len]; rfl
    rw [hl] at i1 i4
    rw [cut_to]
    have lt : (w.take sz).length = sz := by rw [List.length_take]; omega
    exact ⟨_, _, rfl, wok_take i2 _, by rw [lt]; omega, by rw [lt]; omega, i1.mono (by omega)⟩
end G
namespace G
open PySem L2 M
/-! ### least periods, by both readings -/
theorem rng_get' {n i : Nat} (h : i + 1 < n) : (rng 1 (n : Int))[i]? = some ((i + 1 : Nat) : Int) := by
  unfold rng
  rw [List.getElem?_map, List.getElem?_range (by omega)]
  show some (1 + (i : Int)) = _
  congr 1
  omega
theorem rng_get {n i : Nat} (h : i < (rng 1 (n : Int)).length) : (rng 1 (n : Int))[i] = ((i + 1 : Nat) : Int) := by
  have h2 := h
  rw [rng_len] at h2
  have q := rng_get' (n := n) (i := i) (by omega)
  rw [List.getElem?_eq_getElem h] at q
  exact Option.some.inj q
/-- what a search over 1 .. n - 1 tells -/
def Fnd (n : Nat) (P : Nat → Prop) (y : Lp Int Unit) : Prop :=
  (∃ r : Nat, 1 ≤ r ∧ r < n ∧ y = .ret (r : Int) ∧ P r ∧ ∀ q, 1 ≤ q → q < r → ¬ P q) ∨ (y = .fin () ∧ ∀ q, 1 ≤ q → q < n → ¬ P q)
theorem search_ok {n : Nat} {P : Nat → Prop} {f : Int → Unit → Res (Fl Int Unit)} (h : ∀ p : Nat, 1 ≤ p → p < n → ∃ b : Bool, f (p : Int) () = .ok (if b = true then .rt (p : Int) else .nx ()) ∧ (b = true ↔ P p)) :
    ∃ y, forR f (rng 1 (n : Int)) () = .ok y ∧ Fnd n P y := by
  classical
  have hx : ∀ x ∈ rng 1 (n : Int), f x () = .ok (if decide (P x.toNat) = true then .rt x else .nx ()) := fun x hx => by
    obtain ⟨h1, h2⟩ := mem_rng.mp hx
    obtain ⟨b, e, hb⟩ := h x.toNat (by omega) (by omega)
    have ex : ((x.toNat : Nat) : Int) = x := by omega
    rw [ex] at e
    rw [e]
    cases b with
    | true => rw [if_pos rfl, if_pos (decide_eq_true (hb.mp rfl))]
    | false => rw [if_neg (by decide), if_neg (by simpa using fun z => by have := hb.mpr z; cases this)]
  refine ⟨_, forR_find hx, ?_⟩
  cases e : (rng 1 (n : Int)).find? fun x => decide (P x.toNat) with
  | none =>
    refine .inr ⟨rfl, fun q h1 h2 hq => ?_⟩
    have := List.find?_eq_none.mp e (q : Int) (mem_rng.mpr ⟨by omega, by omega⟩)
    exact this (by simpa using hq)
  | some x =>
    obtain ⟨hp, i, hi, ei, hj⟩ := List.find?_eq_some_iff_getElem.mp e
    have hl : (rng 1 (n : Int)).length = ((n : Int) - 1).toNat := rng_len
    rw [rng_get hi] at ei
    refine .inl ⟨i + 1, by omega, by omega, by rw [← ei], by rw [← ei] at hp; simpa using hp, fun q h1 h2 hq => ?_⟩
    have hq' : q - 1 < i := by omega
    have := hj (q - 1) hq'
    rw [rng_get] at this
    have e2 : q - 1 + 1 = q := by omega
    rw [e2] at this
    simp [hq] at this
theorem Fnd.eq {n : Nat} {P : Nat → Prop} {y z : Lp Int Unit} (h1 : Fnd n P y) (h2 : Fnd n P z) : y = z := by
  rcases h1 with ⟨r, a1, a2, rfl, a3, a4⟩ | ⟨rfl, a4⟩
  · rcases h2 with ⟨q, b1, b2, rfl, b3, b4⟩ | ⟨rfl, b4⟩
    · have : r = q := by
        rcases Nat.lt_trichotomy r q with h | h | h
        · exact absurd a3 (b4 r a1 h)
        · exact h
        · exact absurd b3 (a4 q b1 h)
      rw [this]
    · exact absurd a3 (b4 r a1 a2)
  · rcases h2 with ⟨q, b1, b2, rfl, b3, b4⟩ | ⟨rfl, b4⟩
    · exact absurd b3 (a4 q b1 b2)
    · rfl
/-- letters that are p apart agree, from a on, below b -/
def Agr (w : Tx) (a b p : Nat) : Prop := ∀ i, a ≤ i → i < b → i + p < w.length → w[i]? = w[i + p]?
theorem seg_eq {w : Tx} {a b p : Nat} (hb : b + p ≤ w.length) : (w.drop a).take (b - a) = (w.drop (a + p)).take (b - a) ↔ Agr w a b p := by
  constructor
  · intro e i h1 h2 h3
    have := congrArg (fun l => l[i - a]?) e
    simp only [List.getElem?_take, List.getElem?_drop] at this
    rw [if_pos (by omega), if_pos (by omega)] at this
    have e1 : a + (i - a) = i := by omega
    have e2 : a + p + (i - a) = i + p := by omega
    rw [e1, e2] at this
    exact this
  · intro h
    apply List.ext_getElem?
    intro i
    rw [List.getElem?_take, List.getElem?_take, List.getElem?_drop, List.getElem?_drop]
    by_cases hi : i < b - a
    · rw [if_pos hi, if_pos hi]
      have := h (a + i) (by omega) (by omega) (by omega)
      rw [this]
      have e2 : a + i + p = a + p + i := by omega
      rw [e2]
    · rw [if_neg hi, if_neg hi]
theorem Agr.low {w : Tx} {a b p : Nat} : Agr w a b p ↔ Agr w a (min b (w.length - p)) p := by
  constructor
  · exact fun h i h1 h2 h3 => h i h1 (by omega) h3
  · exact fun h i h1 h2 h3 => h i h1 (by omega) h3
def lpd (d : Int) : Lp Int Unit → Int
  | .ret r => r
  | .fin _ => d
theorem fits_ok {w : Tx} {lo hi : Int} {p : Nat} (hl : w.length ≤ 1000) (h0 : -1000 ≤ lo) (h1 : lo ≤ 1000) (h2 : 0 ≤ hi) (h3 : hi ≤ w.length) :
    ∃ b : Bool, m_law_fits w lo hi (p : Int) = .ok b ∧ (b = true ↔ Agr w lo.toNat hi.toNat p) := by
  classical
  unfold m_law_fits
  rw [rngR_ok (rgOk (by omega) (by omega) (by omega) (by omega)), Res.bind_ok]
  rw [forR_find (P := fun x : Int => decide (x.toNat + p < w.length ∧ w[x.toNat]? ≠ w[x.toNat + p]?)) (g := fun _ => false) (fun x hx => ?_), Res.bind_ok]
  · cases e : (rng (max 0 lo) hi).find? fun x : Int => decide (x.toNat + p < w.length ∧ w[x.toNat]? ≠ w[x.toNat + p]?) with
    | none =>
      refine ⟨true, rfl, fun _ i a1 a2 a3 => ?_, fun _ => rfl⟩
      have := List.find?_eq_none.mp e (i : Int) (mem_rng.mpr ⟨by omega, by omega⟩)
      have := of_decide_eq_false (by simpa using this : decide ((i : Int).toNat + p < w.length ∧ w[(i : Int).toNat]? ≠ w[(i : Int).toNat + p]?) = false)
      rw [Int.toNat_natCast] at this
      exact Classical.byContradiction fun z => this ⟨a3, z⟩
    | some x =>
      have hx := mem_rng.mp (List.mem_of_find?_eq_some e)
      have hp0 := List.find?_some e
      have hp : x.toNat + p < w.length ∧ w[x.toNat]? ≠ w[x.toNat + p]? := of_decide_eq_true hp0
      refine ⟨false, rfl, fun z => (by cases z), fun h => absurd (h x.toNat (by omega) (by omega) hp.1) hp.2⟩
  · obtain ⟨a1, a2⟩ := mem_rng.mp hx
    obtain ⟨k, rfl⟩ : ∃ k : Nat, x = (k : Int) := ⟨x.toNat, by omega⟩
    rw [Int.toNat_natCast]
    by_cases hlt : k + p < w.length
    · rw [if_pos (decide_eq_true (by omega : ((k : Int) + (p : Int) < ((w.length : Nat) : Int))))]
      have e2 : (k : Int) + (p : Int) = ((k + p : Nat) : Int) := by omega
      rw [xGet_nat (by omega : k < w.length), e2, xGet_nat hlt]
      simp only [Res.bind_ok]
      have g1 : w[k]? = some w[k] := List.getElem?_eq_getElem _
      have g2 : w[k + p]? = some w[k + p] := List.getElem?_eq_getElem hlt
      rw [g1, g2]
      by_cases he : w[k] = w[k + p]
      · rw [if_neg (by simp [he]), if_neg (by simp [he])]
      · rw [if_pos (by simp [he]), if_pos (by simp [he, hlt])]
    · rw [if_neg (by simpa using (by omega : ¬ ((k : Int) + (p : Int) < ((w.length : Nat) : Int)))), if_neg (by simp; omega)]
/-- the least period: both tell the same -/
theorem shortest_period_ok {w : Tx} (hl : w.length ≤ 1000) : ∃ y, m_shortest_period w = .ok (lpd (max 1 ((w.length : Nat) : Int)) y) ∧ Fnd w.length (fun p => Agr w 0 w.length p) y := by
  unfold m_shortest_period
  rw [rngR_ok (rgOk (by omega) (by omega) (by omega) (by omega)), Res.bind_ok]
  obtain ⟨y, e, hy⟩ := search_ok (n := w.length) (P := fun p => Agr w 0 w.length p) (f := fun (period : Int) (s : Unit) => (if (decide ((cutL w (some period) none) = (cutL w none (some (((w.length : Nat) : Int) - period))))) = true then .ok (.rt period) else .ok (.nx ()))) fun p h1 h2 => by
    refine ⟨decide (cutL w (some (p : Int)) none = cutL w none (some (((w.length : Nat) : Int) - (p : Int)))), by split <;> rfl, ?_⟩
    have e2 : ((w.length : Nat) : Int) - (p : Int) = ((w.length - p : Nat) : Int) := by omega
    rw [e2, cut_from, cut_to, decide_eq_true_iff, Agr.low]
    have := seg_eq (w := w) (a := 0) (b := w.length - p) (p := p) (by omega)
    rw [List.drop_zero, Nat.sub_zero, Nat.zero_add, List.take_of_length_le (l := w.drop p) (by rw [List.length_drop]; omega)] at this
    rw [Nat.min_eq_right (by omega), ← this]
    exact eq_comm
  refine ⟨y, ?_, hy⟩
  rw [e, Res.bind_ok]
  cases y <;> rfl
theorem law_least_ok {w : Tx} (hl : w.length ≤ 1000) : ∃ y, m_law_least w = .ok (lpd (max 1 ((w.length : Nat) : Int)) y) ∧ Fnd w.length (fun p => Agr w 0 w.length p) y := by
  unfold m_law_least
  rw [rngR_ok (rgOk (by omega) (by omega) (by omega) (by omega)), Res.bind_ok]
  obtain ⟨y, e, hy⟩ := search_ok (n := w.length) (P := fun p => Agr w 0 w.length p) (f := fun (period : Int) (s : Unit) => Res.bind (m_law_fits w (0 : Int) ((w.length : Nat) : Int) period) fun (t2 : Bool) => (if t2 = true then .ok (.rt period) else .ok (.nx ()))) fun p h1 h2 => by
    obtain ⟨b, e, hb⟩ := fits_ok (w := w) (lo := 0) (hi := ((w.length : Nat) : Int)) (p := p) hl (by omega) (by omega) (by omega) (by omega)
    refine ⟨b, by rw [e, Res.bind_ok]; split <;> rfl, ?_⟩
    rw [hb]
    rfl
  refine ⟨y, ?_, hy⟩
  rw [e, Res.bind_ok]
  cases y <;> rfl
theorem shortest_local_ok {w : Tx} {c : Nat} (hl : w.length ≤ 1000) (hc : c < w.length) : ∃ y, m_shortest_local w (c : Int) = .ok (lpd ((w.length : Nat) : Int) y) ∧ Fnd w.length (fun p => Agr w (c - p) c p) y := by
  unfold m_shortest_local
  rw [rngR_ok (rgOk (by omega) (by omega) (by omega) (by omega)), Res.bind_ok]
  obtain ⟨y, e, hy⟩ := search_ok (n := w.length) (P := fun p => Agr w (c - p) c p) (f := fun (period : Int) (s : Unit) => Res.bind (.ok (max (0 : Int) ((c : Int) - period))) fun (first : Int) => Res.bind (.ok (min (c : Int) (((w.length : Nat) : Int) - period))) fun (last : Int) => (if (decide ((cutL w (some first) (some last)) = (cutL w (some (first + period)) (some (last + period))))) = true then .ok (.rt period) else .ok (.nx ()))) fun p h1 h2 => by
    have e1 : max (0 : Int) ((c : Int) - (p : Int)) = ((c - p : Nat) : Int) := by omega
    have e2 : min (c : Int) (((w.length : Nat) : Int) - (p : Int)) = ((min c (w.length - p) : Nat) : Int) := by omega
    refine ⟨decide (cutL w (some ((c - p : Nat) : Int)) (some ((min c (w.length - p) : Nat) : Int)) = cutL w (some (((c - p : Nat) : Int) + (p : Int))) (some (((min c (w.length - p) : Nat) : Int) + (p : Int)))), by rw [Res.bind_ok, Res.bind_ok, e1, e2]; split <;> rfl, ?_⟩
    have e3 : ((c - p : Nat) : Int) + (p : Int) = ((c - p + p : Nat) : Int) := by omega
    have e4 : ((min c (w.length - p) : Nat) : Int) + (p : Int) = ((min c (w.length - p) + p : Nat) : Int) := by omega
    rw [e3, e4, cut_mid, cut_mid, decide_eq_true_iff, Agr.low, ← seg_eq (by omega)]
    have e5 : min c (w.length - p) + p - (c - p + p) = min c (w.length - p) - (c - p) := by omega
    rw [e5]
  refine ⟨y, ?_, hy⟩
  rw [e, Res.bind_ok]
  cases y <;> rfl
theorem law_local_ok {w : Tx} {c : Nat} (hl : w.length ≤ 1000) (hc : c < w.length) : ∃ y, m_law_local w (c : Int) = .ok (lpd ((w.length : Nat) : Int) y) ∧ Fnd w.length (fun p => Agr w (c - p) c p) y := by
  unfold m_law_local
  rw [rngR_ok (rgOk (by omega) (by omega) (by omega) (by omega)), Res.bind_ok]
  obtain ⟨y, e, hy⟩ := search_ok (n := w.length) (P := fun p => Agr w (c - p) c p) (f := fun (period : Int) (s : Unit) => Res.bind (m_law_fits w ((c : Int) - period) (c : Int) period) fun (t2 : Bool) => (if t2 = true then .ok (.rt period) else .ok (.nx ()))) fun p h1 h2 => by
    obtain ⟨b, e, hb⟩ := fits_ok (w := w) (lo := (c : Int) - (p : Int)) (hi := (c : Int)) (p := p) hl (by omega) (by omega) (by omega) (by omega)
    refine ⟨b, by rw [e, Res.bind_ok]; split <;> rfl, ?_⟩
    rw [hb]
    have e1 : ((c : Int) - (p : Int)).toNat = c - p := by omega
    rw [e1]
    rfl
  refine ⟨y, ?_, hy⟩
  rw [e, Res.bind_ok]
  cases y <;> rfl
end G
namespace G
open PySem L2 M
/-! ### the critical factorization -/
def Le (r : Nat → Nat → Prop) : List Nat → List Nat → Prop
  | [], _ => True
  | _ :: _, [] => False
  | a :: x, b :: y => r a b ∨ (a = b ∧ Le r x y)
structure Ordr (r : Nat → Nat → Prop) : Prop where
  irr : ∀ a, ¬ r a a
  tr : ∀ a b c, r a b → r b c → r a c
  tri : ∀ a b, a ≠ b → r a b ∨ r b a
theorem ord_lt : Ordr (fun a b => a < b) := ⟨fun a => Nat.lt_irrefl a, fun _ _ _ h1 h2 => Nat.lt_trans h1 h2, fun a b h => by omega⟩
theorem ord_gt : Ordr (fun a b => b < a) := ⟨fun a => Nat.lt_irrefl a, fun _ _ _ h1 h2 => Nat.lt_trans h2 h1, fun a b h => by omega⟩
section
variable {r : Nat → Nat → Prop} (o : Ordr r)
theorem le_refl' : ∀ x : List Nat, Le r x x
  | [] => trivial
  | a :: x => .inr ⟨rfl, le_refl' x⟩
include o
theorem le_total' : ∀ x y : List Nat, Le r x y ∨ Le r y x
  | [], _ => .inl trivial
  | _ :: _, [] => .inr trivial
  | a :: x, b :: y => by
    by_cases e : a = b
    · rcases le_total' x y with h | h
      · exact .inl (.inr ⟨e, h⟩)
      · exact .inr (.inr ⟨e.symm, h⟩)
    · rcases o.tri a b e with h | h
      · exact .inl (.inl h)
      · exact .inr (.inl h)
theorem le_trans' : ∀ {x y z : List Nat}, Le r x y → Le r y z → Le r x z
  | [], _, _, _, _ => trivial
  | _ :: _, [], _, h, _ => h.elim
  | _ :: _, _ :: _, [], _, h => h.elim
  | a :: x, b :: y, c :: z, h1, h2 => by
    rcases h1 with h1 | ⟨rfl, h1⟩
    · rcases h2 with h2 | ⟨rfl, h2⟩
      · exact .inl (o.tr _ _ _ h1 h2)
      · exact .inl h1
    · rcases h2 with h2 | ⟨rfl, h2⟩
      · exact .inl h2
      · exact .inr ⟨rfl, le_trans' h1 h2⟩
theorem le_anti : ∀ {x y : List Nat}, Le r x y → Le r y x → x = y
  | [], [], _, _ => rfl
  | [], _ :: _, _, h => h.elim
  | _ :: _, [], h, _ => h.elim
  | a :: x, b :: y, h1, h2 => by
    rcases h1 with h1 | ⟨rfl, h1⟩
    · rcases h2 with h2 | ⟨e, _⟩
      · exact absurd (o.tr _ _ _ h1 h2) (o.irr _)
      · rw [e] at h1; exact absurd h1 (o.irr _)
    · rcases h2 with h2 | ⟨_, h2⟩
      · exact absurd h2 (o.irr _)
      · rw [le_anti h1 h2]
theorem le_cancel : ∀ (z : List Nat) {x y : List Nat}, Le r (z ++ x) (z ++ y) → Le r x y
  | [], _, _, h => h
  | a :: z, _, _, h => by
    rcases h with h | ⟨_, h⟩
    · exact absurd h (o.irr _)
    · exact le_cancel z h
theorem le_pref {x y : List Nat} (h : Le r (x ++ y) x) : y = [] := by
  have h2 : Le r (x ++ y) (x ++ []) := by rw [List.append_nil]; exact h
  have := le_cancel o x h2
  cases y with
  | nil => rfl
  | cons a y => exact this.elim
theorem max_suf (w : List Nat) : ∀ m : Nat, ∃ c, c ≤ m ∧ ∀ j, j ≤ m → Le r (w.drop j) (w.drop c)
  | 0 => ⟨0, Nat.le_refl _, fun j h => by rw [Nat.le_zero.mp h]; exact le_refl' _⟩
  | m + 1 => by
    obtain ⟨c, hc, h⟩ := max_suf w m
    rcases le_total' o (w.drop (m + 1)) (w.drop c) with q | q
    · refine ⟨c, by omega, fun j hj => ?_⟩
      by_cases e : j = m + 1
      · rw [e]; exact q
      · exact h j (by omega)
    · refine ⟨m + 1, Nat.le_refl _, fun j hj => ?_⟩
      by_cases e : j = m + 1
      · rw [e]; exact le_refl' _
      · exact le_trans' o (h j (by omega)) q
end
theorem both_pref : ∀ {x y : List Nat}, Le (fun a b => a < b) x y → Le (fun a b => b < a) x y → ∃ t, y = x ++ t
  | [], y, _, _ => ⟨y, rfl⟩
  | _ :: _, [], h, _ => h.elim
  | a :: x, b :: y, h1, h2 => by
    rcases h1 with h1 | ⟨rfl, h1⟩
    · rcases h2 with h2 | ⟨e, _⟩
      · omega
      · omega
    · rcases h2 with h2 | ⟨_, h2⟩
      · exact absurd h2 (Nat.lt_irrefl _)
      · obtain ⟨t, e⟩ := both_pref h1 h2
        exact ⟨t, by rw [e]; rfl⟩
/-- w's part from a on, l letters, then the rest -/
theorem drop_split (w : List Nat) (a l : Nat) : w.drop a = (w.drop a).take l ++ w.drop (a + l) := by
  rw [← List.drop_drop, List.take_append_drop]
theorem take_agr {w : List Nat} {a p l : Nat} (hl : a + p + l ≤ w.length) (h : ∀ i, a ≤ i → i < a + l → w[i]? = w[i + p]?) : (w.drop a).take l = (w.drop (a + p)).take l := by
  apply List.ext_getElem?
  intro i
  rw [List.getElem?_take, List.getElem?_take, List.getElem?_drop, List.getElem?_drop]
  by_cases hi : i < l
  · rw [if_pos hi, if_pos hi, h (a + i) (by omega) (by omega)]
    have e : a + i + p = a + p + i := by omega
    rw [e]
  · rw [if_neg hi, if_neg hi]
theorem crit_far {r : Nat → Nat → Prop} (o : Ordr r) {w : List Nat} {c p : Nat} (hc : c < w.length) (hm : ∀ j, j ≤ w.length → Le r (w.drop j) (w.drop c)) (hp : 1 ≤ p) (h : Agr w (c - p) c p) : c < p := by
  refine Classical.byContradiction fun hn => ?_
  have hpc : p ≤ c := by omega
  have e0 : c - p + p = c := by omega
  by_cases h1 : c + p ≤ w.length
  · have ez : (w.drop (c - p)).take p = (w.drop c).take p := by
      have := take_agr (w := w) (a := c - p) (p := p) (l := p) (by omega) fun i a1 a2 => h i a1 (by omega) (by omega)
      rw [e0] at this
      exact this
    have s1 := drop_split w (c - p) p
    have s2 := drop_split w c p
    rw [e0, ez] at s1
    have q := hm (c - p) (by omega)
    rw [s1] at q
    have q2 : Le r ((w.drop c).take p ++ w.drop c) ((w.drop c).take p ++ w.drop (c + p)) := by
      rw [← s2]
      exact q
    have q3 := le_cancel o _ q2
    have q4 := le_anti o q3 (hm (c + p) h1)
    have := congrArg List.length q4
    rw [List.length_drop, List.length_drop] at this
    omega
  · have ez : (w.drop (c - p)).take (w.length - c) = w.drop c := by
      have := take_agr (w := w) (a := c - p) (p := p) (l := w.length - c) (by omega) fun i a1 a2 => h i a1 (by omega) (by omega)
      rw [e0] at this
      rw [this]
      exact List.take_of_length_le (by rw [List.length_drop]; omega)
    have s1 := drop_split w (c - p) (w.length - c)
    rw [ez] at s1
    have q := hm (c - p) (by omega)
    rw [s1] at q
    have := congrArg List.length (le_pref o q)
    rw [List.length_drop] at this
    simp at this
    omega
theorem crit_per {r r' : Nat → Nat → Prop} (o : Ordr r) (o' : Ordr r') (hb : ∀ {x y : List Nat}, Le r x y → Le r' x y → ∃ t, y = x ++ t) {w : List Nat} {c c' p : Nat} (hc : c < w.length) (hm : ∀ j, j ≤ w.length → Le r (w.drop j) (w.drop c))
    (hm' : ∀ j, j ≤ w.length → Le r' (w.drop j) (w.drop c')) (hcc : c' ≤ c) (hp : 1 ≤ p) (h : Agr w (c - p) c p) : c < p ∧ Agr w 0 w.length p := by
  have hcp := crit_far o hc hm hp h
  refine ⟨hcp, fun i _ _ h3 => ?_⟩
  by_cases hi : i < c
  · exact h i (by omega) hi h3
  · have ez : (w.drop c').take (c - c') = (w.drop (c' + p)).take (c - c') := take_agr (by omega) fun i a1 a2 => h i (by omega) (by omega) (by omega)
    have s1 := drop_split w c' (c - c')
    have s2 := drop_split w (c' + p) (c - c')
    have e1 : c' + (c - c') = c := by omega
    have e2 : c' + p + (c - c') = c + p := by omega
    rw [e1] at s1
    rw [e2, ← ez] at s2
    have q := hm' (c' + p) (by omega)
    rw [s2] at q
    have q2 : Le r' ((w.drop c').take (c - c') ++ w.drop (c + p)) ((w.drop c').take (c - c') ++ w.drop c) := by
      rw [← s1]
      exact q
    obtain ⟨t, e⟩ := hb (hm (c + p) (by omega)) (le_cancel o' _ q2)
    have e3 := congrArg (fun l => l[i - c]?) e
    simp only [List.getElem?_drop] at e3
    rw [List.getElem?_append_left (by rw [List.length_drop]; omega), List.getElem?_drop] at e3
    have e4 : c + (i - c) = i := by omega
    have e5 : c + p + (i - c) = i + p := by omega
    rw [e4, e5] at e3
    exact e3
theorem max_lt {r : Nat → Nat → Prop} {w : List Nat} {c : Nat} (h0 : 0 < w.length) (hc : c ≤ w.length) (hm : ∀ j, j ≤ w.length → Le r (w.drop j) (w.drop c)) : c < w.length := by
  refine Classical.byContradiction fun hn => ?_
  have e : c = w.length := by omega
  have q := hm 0 (Nat.zero_le _)
  rw [e, List.drop_length, List.drop_zero] at q
  cases w with
  | nil => simp at h0
  | cons a x => exact q
theorem critical {w : List Nat} (h2 : 2 ≤ w.length) (hu : ¬ Agr w 0 w.length 1) : ∃ c, 1 ≤ c ∧ c < w.length ∧ ∀ p, 1 ≤ p → Agr w (c - p) c p → c < p ∧ Agr w 0 w.length p := by
  obtain ⟨c1, a1, m1⟩ := max_suf ord_lt w w.length
  obtain ⟨c2, a2, m2⟩ := max_suf ord_gt w w.length
  have l1 := max_lt (by omega) a1 m1
  have l2 := max_lt (by omega) a2 m2
  have pos : ¬ (c1 = 0 ∧ c2 = 0) := fun ⟨e1, e2⟩ => hu fun i _ _ h3 => by
    rw [e1] at m1
    rw [e2] at m2
    obtain ⟨t, e⟩ := both_pref (m1 1 (by omega)) (m2 1 (by omega))
    rw [List.drop_zero] at e
    have e3 := congrArg (fun l => l[i]?) e
    rw [List.getElem?_append_left (by rw [List.length_drop]; omega), List.getElem?_drop] at e3
    rw [e3, Nat.add_comm]
  rcases Nat.le_total c2 c1 with h | h
  · exact ⟨c1, by omega, l1, fun p hp ha => crit_per ord_lt ord_gt both_pref l1 m1 m2 h hp ha⟩
  · exact ⟨c2, by omega, l2, fun p hp ha => crit_per ord_gt ord_lt (fun h1 h2 => both_pref h2 h1) l2 m2 m1 h hp ha⟩
end G
namespace G
open PySem L2 M
/-! ### words and bad words -/
theorem lt1 (a b : Nat) : xLt [a] [b] = decide (a < b) := by
  unfold xLt
  refine decide_eq_decide.mpr ?_
  constructor
  · intro h
    rcases List.cons_lt_cons_iff.mp h with h | ⟨_, h⟩
    · exact h
    · exact absurd h (List.lt_irrefl _)
  · exact fun h => List.cons_lt_cons_iff.mpr (.inl h)
theorem gt1 (a b : Nat) : xGt [a] [b] = decide (b < a) := lt1 b a
theorem is_letters_ok (w : Tx) (most : Int) : ∃ b : Bool, m_is_letters w most = .ok b ∧ (b = true ↔ (w.length : Int) ≤ most ∧ WOk w) := by
  unfold m_is_letters
  by_cases h : ((w.length : Nat) : Int) > most
  · rw [if_pos (decide_eq_true h)]
    exact ⟨false, rfl, fun z => by (cases z), fun z => absurd z.1 (by omega)⟩
  · rw [if_neg (by simpa using h)]
    rw [forR_find (P := fun l : Tx => (xLt l ([97] : Tx)) || (xGt l ([122] : Tx))) (g := fun _ => false) (fun x _ => by split <;> rfl), Res.bind_ok]
    cases e : (chars w).find? fun l : Tx => (xLt l ([97] : Tx)) || (xGt l ([122] : Tx)) with
    | none =>
      refine ⟨true, rfl, fun _ => ⟨by omega, fun c hc => ?_⟩, fun _ => rfl⟩
      have := List.find?_eq_none.mp e [c] (by unfold chars; exact List.mem_map.mpr ⟨c, hc, rfl⟩)
      rw [lt1, gt1] at this
      simp at this
      omega
    | some x =>
      have hx := List.mem_of_find?_eq_some e
      have hp0 := List.find?_some e
      unfold chars at hx
      obtain ⟨c, hc, rfl⟩ := List.mem_map.mp hx
      refine ⟨false, rfl, fun z => by (cases z), fun z => ?_⟩
      have := z.2 c hc
      have hp : ((xLt [c] ([97] : Tx)) || (xGt [c] ([122] : Tx))) = true := hp0
      rw [lt1, gt1] at hp
      simp at hp
      omega
theorem check_ok {w : Tx} (h : WOk w) (hl : w.length ≤ 60) : m_check_word w = .ok () := by
  obtain ⟨b, e, hb⟩ := is_letters_ok w 60
  have : b = true := hb.mpr ⟨by omega, h⟩
  subst this
  unfold m_check_word m_is_word
  rw [e]
  rfl
theorem check_bad {w : Tx} (h : ¬ (w.length ≤ 60 ∧ WOk w)) : m_check_word w = .exc ⟨"BadWord", [("word", enc w)]⟩ := by
  obtain ⟨b, e, hb⟩ := is_letters_ok w 60
  have : b = false := by
    cases b with
    | false => rfl
    | true => exact absurd (hb.mp rfl) fun z => h ⟨by omega, z.2⟩
  subst this
  unfold m_check_word m_is_word
  rw [e]
  rfl
/-! ### the law's looks -/
def IsL (n : Nat) (P : Nat → Prop) (d l : Nat) : Prop := (1 ≤ l ∧ l < n ∧ P l ∧ ∀ q, 1 ≤ q → q < l → ¬ P q) ∨ (l = d ∧ ∀ q, 1 ≤ q → q < n → ¬ P q)
theorem Fnd.isL {n d : Nat} {P : Nat → Prop} {y : Lp Int Unit} (h : Fnd n P y) : ∃ l : Nat, IsL n P d l ∧ lpd (d : Int) y = (l : Int) := by
  rcases h with ⟨r, a1, a2, rfl, a3, a4⟩ | ⟨rfl, a4⟩
  · exact ⟨r, .inl ⟨a1, a2, a3, a4⟩, rfl⟩
  · exact ⟨d, .inr ⟨rfl, a4⟩, rfl⟩
theorem least_ok {w : Tx} (h : WOk w) (hl : w.length ≤ 60) : ∃ L : Nat, m_law_least w = .ok (L : Int) ∧ m_shortest_period w = .ok (L : Int) ∧ m_least_period w = .ok (L : Int) ∧ IsL w.length (fun p => Agr w 0 w.length p) (max 1 w.length) L := by
  obtain ⟨y, e1, f1⟩ := shortest_period_ok (w := w) (by omega)
  obtain ⟨z, e2, f2⟩ := law_least_ok (w := w) (by omega)
  have := f1.eq f2
  subst this
  obtain ⟨L, i, el⟩ := f1.isL (d := max 1 w.length)
  have em : max 1 ((w.length : Nat) : Int) = ((max 1 w.length : Nat) : Int) := by omega
  rw [em, el] at e1 e2
  refine ⟨L, e2, e1, ?_, i⟩
  unfold m_least_period
  rw [check_ok h hl, Res.bind_ok, e1]
  rfl
theorem local_ok {w : Tx} {c : Nat} (h : WOk w) (hl : w.length ≤ 60) (h1 : 1 ≤ c) (hc : c < w.length) : ∃ l : Nat, m_law_local w (c : Int) = .ok (l : Int) ∧ m_shortest_local w (c : Int) = .ok (l : Int) ∧ m_local_period w (c : Int) = .ok (l : Int) ∧ IsL w.length (fun p => Agr w (c - p) c p) w.length l := by
  obtain ⟨y, e1, f1⟩ := shortest_local_ok (w := w) (c := c) (by omega) hc
  obtain ⟨z, e2, f2⟩ := law_local_ok (w := w) (c := c) (by omega) hc
  have := f1.eq f2
  subst this
  obtain ⟨L, i, el⟩ := f1.isL (d := w.length)
  rw [el] at e1 e2
  refine ⟨L, e2, e1, ?_, i⟩
  unfold m_local_period m_check_range
  rw [check_ok h hl, Res.bind_ok, if_neg (by simp; omega), Res.bind_ok, e1]
  rfl
/-- the cuts' local periods -/
theorem lvs {w : Tx} (h : WOk w) (hl : w.length ≤ 60) : ∃ lv : Nat → Nat, ∀ c : Nat, 1 ≤ c → c < w.length → m_law_local w (c : Int) = .ok (lv c : Int) ∧ m_shortest_local w (c : Int) = .ok (lv c : Int) ∧ m_local_period w (c : Int) = .ok (lv c : Int) ∧ IsL w.length (fun p => Agr w (c - p) c p) w.length (lv c) := by
  classical
  refine ⟨fun c => if hc : 1 ≤ c ∧ c < w.length then Classical.choose (local_ok h hl hc.1 hc.2) else 0, fun c h1 h2 => ?_⟩
  dsimp only
  rw [dif_pos ⟨h1, h2⟩]
  exact Classical.choose_spec (local_ok h hl h1 h2)
/-- local periods are not above the least period -/
theorem lv_le {w : Tx} {c L l : Nat} (hc : c < w.length) (iL : IsL w.length (fun p => Agr w 0 w.length p) (max 1 w.length) L) (il : IsL w.length (fun p => Agr w (c - p) c p) w.length l) : l ≤ L := by
  have up : ∀ p, Agr w 0 w.length p → Agr w (c - p) c p := fun p h i a1 a2 a3 => h i (by omega) (by omega) a3
  rcases iL with ⟨a1, a2, a3, a4⟩ | ⟨rfl, a4⟩
  · rcases il with ⟨b1, b2, b3, b4⟩ | ⟨rfl, b4⟩
    · refine Classical.byContradiction fun hn => b4 L a1 (by omega) (up L a3)
    · exact absurd (up L a3) (b4 L a1 a2)
  · rcases il with ⟨b1, b2, b3, b4⟩ | ⟨rfl, b4⟩
    · omega
    · omega
/-- there is a critical cut, the first place or ahead of the least period -/
theorem crit_cut {w : Tx} {L : Nat} {l : Nat → Nat} (hn : 2 ≤ w.length) (iL : IsL w.length (fun p => Agr w 0 w.length p) (max 1 w.length) L) (il : ∀ c, 1 ≤ c → c < w.length → IsL w.length (fun p => Agr w (c - p) c p) w.length (l c)) :
    ∃ c, 1 ≤ c ∧ c < w.length ∧ l c = L ∧ (c = 1 ∨ c < L) := by
  have up : ∀ c p, c < w.length → Agr w 0 w.length p → Agr w (c - p) c p := fun c p hc h i a1 a2 a3 => h i (by omega) (by omega) a3
  by_cases hu : Agr w 0 w.length 1
  · have e1 : L = 1 := by
      rcases iL with ⟨a1, a2, a3, a4⟩ | ⟨_, a4⟩
      · exact Classical.byContradiction fun z => a4 1 (Nat.le_refl _) (by omega) hu
      · exact absurd hu (a4 1 (Nat.le_refl _) (by omega))
    refine ⟨1, Nat.le_refl _, by omega, ?_, .inl rfl⟩
    rcases il 1 (Nat.le_refl _) (by omega) with ⟨b1, b2, b3, b4⟩ | ⟨_, b4⟩
    · exact Classical.byContradiction fun z => b4 1 (Nat.le_refl _) (by omega) (up 1 1 (by omega) hu)
    · exact absurd (up 1 1 (by omega) hu) (b4 1 (Nat.le_refl _) (by omega))
  · obtain ⟨c, c1, c2, hc⟩ := critical hn hu
    refine ⟨c, c1, c2, ?_⟩
    have le := lv_le c2 iL (il c c1 c2)
    rcases il c c1 c2 with ⟨b1, b2, b3, b4⟩ | ⟨b0, b4⟩
    · obtain ⟨q1, q2⟩ := hc _ b1 b3
      have : L ≤ l c := by
        rcases iL with ⟨a1, a2, a3, a4⟩ | ⟨_, a4⟩
        · exact Classical.byContradiction fun z => a4 _ b1 (by omega) q2
        · exact absurd q2 (a4 _ b1 b2)
      exact ⟨by omega, .inr (by omega)⟩
    · rcases iL with ⟨a1, a2, a3, a4⟩ | ⟨a0, a4⟩
      · exact absurd (up c L c2 a3) (b4 L a1 a2)
      · exact ⟨by omega, .inr (by omega)⟩
theorem forR_app {f : Int → List Int → Res (Fl Bool (List Int))} {P : Int → Bool} : ∀ {xs s : List Int}, s.length + xs.length ≤ 1000 → (∀ x ∈ xs, ∀ s : List Int, s.length ≤ 1000 → f x s = .ok (.nx (if P x = true then s ++ [x] else s))) → forR f xs s = .ok (.fin (s ++ xs.filter P))
  | [], s, _, _ => by rw [forR_nil]; simp
  | x :: xs, s, hl, h => by
    rw [List.length_cons] at hl
    rw [forR_cons, h x List.mem_cons_self s (by omega), Res.bind_ok]
    cases hp : P x with
    | true =>
      rw [if_pos rfl, List.filter_cons_of_pos hp]
      have := forR_app (f := f) (P := P) (xs := xs) (s := s ++ [x]) (by rw [List.length_append]; simp; omega) fun y hy => h y (List.mem_cons_of_mem _ hy)
      dsimp only
      rw [this, List.append_assoc]
      rfl
    | false =>
      rw [if_neg (by decide), List.filter_cons_of_neg (by rw [hp]; decide)]
      exact forR_app (by omega) fun y hy => h y (List.mem_cons_of_mem _ hy)
theorem whole_ok (x : Int) : m_law_whole x = .ok true := rfl
theorem same_ok {xs : List Int} (h : xs.length ≤ 1000) : m_law_same xs xs = .ok true := by
  unfold m_law_same
  rw [if_neg (by simp), rngR_ok (rgOk (by omega) (by omega) (by omega) (by omega)), Res.bind_ok, forR_all, Res.bind_ok]
  intro x hx
  obtain ⟨h1, h2⟩ := mem_rng.mp hx
  obtain ⟨k, rfl⟩ : ∃ k : Nat, x = (k : Int) := ⟨x.toNat, by omega⟩
  rw [lGet_nat (by omega : k < xs.length)]
  simp [whole_ok]
theorem rng_sorted (n : Nat) : (rng 1 (n : Int)).Pairwise (· < ·) := by
  unfold rng
  rw [List.pairwise_map]
  exact List.Pairwise.imp (fun {a b} h => by omega) List.pairwise_lt_range
/-- what is known of a word -/
structure Kn (w : Tx) (L : Nat) (lv : Nat → Nat) : Prop where
  ok : WOk w
  len : w.length ≤ 60
  e1 : m_law_least w = .ok (L : Int)
  e2 : m_shortest_period w = .ok (L : Int)
  e3 : m_least_period w = .ok (L : Int)
  iL : IsL w.length (fun p => Agr w 0 w.length p) (max 1 w.length) L
  q1 : ∀ c : Nat, 1 ≤ c → c < w.length → m_law_local w (c : Int) = .ok (lv c : Int)
  q2 : ∀ c : Nat, 1 ≤ c → c < w.length → m_shortest_local w (c : Int) = .ok (lv c : Int)
  q3 : ∀ c : Nat, 1 ≤ c → c < w.length → m_local_period w (c : Int) = .ok (lv c : Int)
  q4 : ∀ c : Nat, 1 ≤ c → c < w.length → IsL w.length (fun p => Agr w (c - p) c p) w.length (lv c)
theorem kn_of {w : Tx} (h : WOk w) (hl : w.length ≤ 60) : ∃ L lv, Kn w L lv := by
  obtain ⟨L, e1, e2, e3, iL⟩ := least_ok h hl
  obtain ⟨lv, q⟩ := lvs h hl
  exact ⟨L, lv, h, hl, e1, e2, e3, iL, fun c a b => (q c a b).1, fun c a b => (q c a b).2.1, fun c a b => (q c a b).2.2.1, fun c a b => (q c a b).2.2.2⟩
section
variable {w : Tx} {L : Nat} {lv : Nat → Nat} (k : Kn w L lv)
/-- the critical cuts -/
def dueOf (w : Tx) (L : Nat) (lv : Nat → Nat) : List Int := (rng 1 (w.length : Int)).filter fun x => decide (lv x.toNat = L)
theorem rng_w {w : Tx} (hl : w.length ≤ 60) : rngR 1 ((w.length : Nat) : Int) = .ok (rng 1 (w.length : Int)) := rngR_ok (rgOk (by omega) (by omega) (by omega) (by omega))
include k
theorem crit_ok : m_critical_cuts w = .ok (dueOf w L lv) := by
  have hlen : (rng 1 ((w.length : Nat) : Int)).length ≤ 60 := by rw [rng_len]; have := k.len; omega
  unfold m_critical_cuts
  rw [check_ok k.ok k.len, Res.bind_ok, k.e2, Res.bind_ok, rng_w k.len, Res.bind_ok]
  rw [lcR_ok (p := fun x => decide (lv x.toNat = L)) (g := fun x => x) (by omega) (fun x hx => ?_) (fun _ _ => rfl), Res.bind_ok, List.map_id']
  · rfl
  · obtain ⟨h1, h2⟩ := mem_rng.mp hx
    obtain ⟨j, rfl⟩ : ∃ j : Nat, x = (j : Int) := ⟨x.toNat, by omega⟩
    rw [k.q2 j (by omega) (by omega), Int.toNat_natCast]
    show Res.ok (decide ((lv j : Int) = (L : Int))) = _
    congr 1
    exact decide_eq_decide.mpr (by omega)
theorem turn_ok (f : Int → List Int → Res (Fl Bool (List Int))) (hf : f = fun (cut : Int) (s : (List Int)) => match s with | due => Res.bind (m_law_local w cut) fun (t6 : Int) => Res.bind (m_local_period w cut) fun (t7 : Int) => Res.bind (Res.bind (m_law_whole t7) fun (t8 : Bool) => (if (!t8) = true then .ok (true, ()) else (if (!decide (t7 = t6)) = true then .ok (true, ()) else .ok ((decide (t6 > (L : Int))), ())))) fun (s : Bool × Unit) => match s with | (b9, _) => (if b9 = true then .ok (.rt false) else Res.bind (if (decide (t6 = (L : Int))) = true then Res.bind (lApp due cut) fun (due : (List Int)) => .ok due else .ok due) fun (s : (List Int)) => match s with | due => .ok (.nx due))) :
    forR f (rng 1 (w.length : Int)) [] = .ok (.fin (dueOf w L lv)) := by
  have hlen : (rng 1 ((w.length : Nat) : Int)).length ≤ 60 := by rw [rng_len]; have := k.len; omega
  have := forR_app (f := f) (P := fun x => decide (lv x.toNat = L)) (xs := rng 1 (w.length : Int)) (s := []) (by simp; omega) fun x hx s hs => by
    obtain ⟨h1, h2⟩ := mem_rng.mp hx
    obtain ⟨j, rfl⟩ : ∃ j : Nat, x = (j : Int) := ⟨x.toNat, by omega⟩
    have le := lv_le (by omega) k.iL (k.q4 j (by omega) (by omega))
    subst hf
    dsimp only
    rw [k.q1 j (by omega) (by omega), Res.bind_ok, k.q3 j (by omega) (by omega), Res.bind_ok, whole_ok, Res.bind_ok, Int.toNat_natCast]
    have : ¬ ((lv j : Int) > (L : Int)) := by omega
    by_cases he : lv j = L
    · simp [he, lApp_ok (by omega : s.length < 100000)]
    · have he2 : ¬ ((lv j : Int) = (L : Int)) := by omega
      simp [he, he2, this]
  rw [this]
  rfl
theorem due_len : (dueOf w L lv).length ≤ 60 := by
  have hlen : (rng 1 ((w.length : Nat) : Int)).length ≤ 60 := by rw [rng_len]; have := k.len; omega
  exact Nat.le_trans (List.length_filter_le _ _) hlen
theorem due_first (hn : 2 ≤ w.length) : ∃ d ds, dueOf w L lv = d :: ds ∧ (d = 1 ∨ d < (L : Int)) := by
  obtain ⟨c, c1, c2, c3, c4⟩ := crit_cut (l := lv) hn k.iL k.q4
  have hmem : (c : Int) ∈ dueOf w L lv := List.mem_filter.mpr ⟨mem_rng.mpr ⟨by omega, by omega⟩, by simp [c3]⟩
  have hsort : (dueOf w L lv).Pairwise (· < ·) := (rng_sorted _).sublist List.filter_sublist
  have hge : ∀ x ∈ dueOf w L lv, (1 : Int) ≤ x := fun x hx => (mem_rng.mp (List.mem_filter.mp hx).1).1
  generalize dueOf w L lv = due at *
  cases due with
  | nil => cases hmem
  | cons d ds =>
    have hd : d ≤ (c : Int) := by
      rcases List.mem_cons.mp hmem with e | e
      · omega
      · have := (List.pairwise_cons.mp hsort).1 _ e
        omega
    have hd1 := hge d List.mem_cons_self
    exact ⟨d, ds, rfl, by omega⟩
theorem kept_ok : m_law_kept w = .ok true := by
  have dl := due_len k
  have hcrit := crit_ok k
  have hfirst := due_first k
  have hturn := turn_ok k _ rfl
  have hr := rng_w k.len
  obtain ⟨hk, hl, e1, e2, e3, -, -, -, -, -⟩ := k
  generalize dueOf w L lv = due at *
  unfold m_law_kept
  rw [e1, Res.bind_ok, e3, Res.bind_ok, whole_ok, Res.bind_ok]
  have rest : ∀ (K : Bool → Res Bool), (Res.bind (m_critical_cuts w) fun (t17 : (List Int)) => Res.bind (m_law_same t17 due) fun (t19 : Bool) => (if (!t19) = true then .ok false else Res.bind (lApp t17 (0 : Int)) fun (rows : (List Int)) => Res.bind (m_critical_cuts w) fun (t23 : (List Int)) => Res.bind (m_law_same t23 due) K)) = K true := fun K => by
    rw [hcrit, Res.bind_ok, same_ok (by omega), Res.bind_ok, if_neg (by decide), lApp_ok (by omega), Res.bind_ok, Res.bind_ok, same_ok (by omega), Res.bind_ok]
  simp only [Bool.not_true, Bool.false_eq_true, if_false, decide_true, Res.bind_ok]
  rw [hr, Res.bind_ok, hturn, Res.bind_ok]
  dsimp only
  by_cases hn : ((w.length : Nat) : Int) > 1
  · rw [if_pos (decide_eq_true hn)]
    obtain ⟨d, ds, rfl, hd⟩ := hfirst (by omega)
    have e0 : lGet (d :: ds) (0 : Int) = .ok d := lGet_nat (xs := d :: ds) (k := 0) (by simp)
    rw [if_neg (show ¬ (List.isEmpty (d :: ds)) = true from fun z => nomatch z), e0]
    simp only [Res.bind_ok]
    by_cases h1 : d = 1
    · simp only [h1, decide_true, Bool.not_true, Bool.false_eq_true, if_false, Res.bind_ok]
      rw [h1] at rest
      exact rest _
    · have hlt : ¬ (d ≥ (L : Int)) := by
        rcases hd with hd | hd
        · exact absurd hd h1
        · exact Int.not_le.mpr hd
      simp only [h1, hlt, decide_false, Bool.not_false, if_true, Bool.false_eq_true, if_false, Res.bind_ok]
      exact rest _
  · rw [if_neg (by simpa using hn)]
    exact rest _
end
end G
namespace G
open PySem L2 M
theorem exO {fs : List (Str × V)} : kn_WordError ⟨"OutOfBounds", fs⟩ = true ∧ is_OutOfBounds ⟨"OutOfBounds", fs⟩ = .ok true ∧ is_BadWord ⟨"OutOfBounds", fs⟩ = .ok false ∧ is_TooMany ⟨"OutOfBounds", fs⟩ = .ok false := by
  refine ⟨(show (decide (("OutOfBounds" : Str) = "BadWord") || decide (("OutOfBounds" : Str) = "OutOfBounds") || decide (("OutOfBounds" : Str) = "TooMany")) = true by decide +kernel), ?_, ?_, ?_⟩
  · unfold is_OutOfBounds; rw [if_neg (show ¬ ("OutOfBounds" : Str) = "BadWord" by decide +kernel), if_pos rfl]
  · unfold is_BadWord; rw [if_neg (show ¬ ("OutOfBounds" : Str) = "BadWord" by decide +kernel), if_pos rfl]
  · unfold is_TooMany; rw [if_neg (show ¬ ("OutOfBounds" : Str) = "BadWord" by decide +kernel), if_pos rfl]
theorem exB {fs : List (Str × V)} : kn_WordError ⟨"BadWord", fs⟩ = true ∧ is_OutOfBounds ⟨"BadWord", fs⟩ = .ok false ∧ is_BadWord ⟨"BadWord", fs⟩ = .ok true ∧ is_TooMany ⟨"BadWord", fs⟩ = .ok false := by
  refine ⟨(show (decide (("BadWord" : Str) = "BadWord") || decide (("BadWord" : Str) = "OutOfBounds") || decide (("BadWord" : Str) = "TooMany")) = true by decide +kernel), ?_, ?_, ?_⟩
  · unfold is_OutOfBounds; rw [if_pos rfl]
  · unfold is_BadWord; rw [if_pos rfl]
  · unfold is_TooMany; rw [if_pos rfl]
theorem fld_value {c : Str} {f : Str} {x : Int} : fldI c f ⟨c, [(f, enc x)]⟩ = .ok x := by
  unfold fldI
  rw [if_pos rfl]
  have : List.lookup f [(f, (enc x : V))] = some (V.int x) := by simp [List.lookup, enc]; rfl
  dsimp only
  rw [this]
theorem fld_text {c : Str} {f : Str} {x : Tx} (h : x.length ≤ 1000) : fldT c f ⟨c, [(f, enc x)]⟩ = .ok x := by
  unfold fldT
  rw [if_pos rfl]
  have : List.lookup f [(f, (enc x : V))] = some (V.str (mkS x)) := by simp [List.lookup, enc]; rfl
  dsimp only
  rw [this]
  dsimp only
  rw [mkS_list, if_pos (Nat.le_trans h (by decide))]
theorem outside_ok {w : Tx} (h : WOk w) (hl : w.length ≤ 60) {cut : Int} (hc : cut < 1 ∨ cut > ((w.length : Nat) : Int) - 1) : m_law_outside w cut = .ok true := by
  have e : m_local_period w cut = .exc ⟨"OutOfBounds", [("value", enc cut)]⟩ := by
    unfold m_local_period m_check_range
    rw [check_ok h hl, Res.bind_ok, if_pos (by simpa using hc)]
    rfl
  obtain ⟨x1, x2, x3, x4⟩ := exO (fs := [("value", enc cut)])
  unfold m_law_outside
  rw [e]
  simp only [Res.bind_exc, Res.catch_exc, x1, if_true, x2, x3, x4, Res.bind_ok, Bool.not_true, Bool.false_eq_true, if_false, fld_value, decide_true]
  rfl
theorem refused_ok {t : Tx} (h : ¬ (t.length ≤ 60 ∧ WOk t)) (hl : t.length ≤ 1000) (which cut : Int) : m_law_refused t which cut = .ok true := by
  have e := check_bad h
  have e1 : m_least_period t = .exc ⟨"BadWord", [("word", enc t)]⟩ := by unfold m_least_period; rw [e]; rfl
  have e2 : m_local_period t cut = .exc ⟨"BadWord", [("word", enc t)]⟩ := by unfold m_local_period; rw [e]; rfl
  have e3 : m_critical_cuts t = .exc ⟨"BadWord", [("word", enc t)]⟩ := by unfold m_critical_cuts; rw [e]; rfl
  obtain ⟨x1, x2, x3, x4⟩ := exB (fs := [("word", enc t)])
  unfold m_law_refused
  rw [e1, e2, e3]
  have body : (Res.bind (if (decide (which = (0 : Int))) = true then Res.bind (.exc ⟨"BadWord", [("word", enc t)]⟩ : Res Int) fun (t2 : Int) => .ok () else Res.bind (if (decide (which = (1 : Int))) = true then Res.bind (.exc ⟨"BadWord", [("word", enc t)]⟩ : Res Int) fun (t3 : Int) => .ok () else Res.bind (.exc ⟨"BadWord", [("word", enc t)]⟩ : Res (List Int)) fun (t4 : (List Int)) => .ok ()) fun (s : Unit) => .ok ()) fun (s : Unit) => (.ok (.fin ()) : Res (Lp Bool Unit))) = .exc ⟨"BadWord", [("word", enc t)]⟩ := by
    split
    · rfl
    · split <;> rfl
  rw [body]
  simp only [Res.catch_exc, x1, if_true, x2, x3, x4, Res.bind_ok, Bool.not_true, Bool.false_eq_true, if_false, fld_text hl, decide_true]
theorem sign_ok {i : Int} (h0 : 0 ≤ i) (h1 : i < 8) : ∃ c, xGet ([96, 123, 65, 90, 48, 32, 45, 10] : Tx) i = .ok [c] ∧ (c < 97 ∨ 122 < c) := by
  have hl : i.toNat < ([96, 123, 65, 90, 48, 32, 45, 10] : Tx).length := by show i.toNat < 8; omega
  refine ⟨_, xGet_int h0 hl, ?_⟩
  have h : ∀ k : Fin 8, ([96, 123, 65, 90, 48, 32, 45, 10] : Tx)[k.val]'(by show k.val < 8; exact k.isLt) < 97 ∨ 122 < ([96, 123, 65, 90, 48, 32, 45, 10] : Tx)[k.val]'(by show k.val < 8; exact k.isLt) := by decide
  exact h ⟨i.toNat, by omega⟩
theorem rep_wok {w : Tx} (h : WOk w) (n : Nat) : WOk (List.replicate n w).flatten := fun c hc => by
  obtain ⟨l, hl, hcl⟩ := List.mem_flatten.mp hc
  rw [(List.mem_replicate.mp hl).2] at hcl
  exact h c hcl
theorem rep_len (w : Tx) (n : Nat) : (List.replicate n w).flatten.length = n * w.length := by
  rw [List.length_flatten, List.map_replicate, List.sum_replicate_nat]
theorem law_all (ns : List Int) (h : ns.length ≤ 63) : m_law ⟨ns⟩ = .ok true := by
  have sm : ∀ x : Int, x ≤ 1000000 → x < 2 ^ 1000 := fun x hx => Int.lt_of_le_of_lt hx (by decide +kernel)
  obtain ⟨s0, e0, k0⟩ := source_ok ns h
  unfold m_law
  rw [e0, Res.bind_ok]
  obtain ⟨d1, s1, e1, a1, b1, k1⟩ := draw_ok (size := 8) k0 (by omega) (by omega) (sm _ (by omega))
  rw [e1, Res.bind_ok]
  dsimp only
  have hw : ∃ w s2, (if (decide (d1 = (7 : Int))) = true then Res.bind (m_law_word s1 (17 : Int) (60 : Int)) fun (t5 : Tx × Src) => .ok (t5.2, t5.1) else Res.bind (m_law_word s1 (0 : Int) (16 : Int)) fun (t7 : Tx × Src) => .ok (t7.2, t7.1)) = (.ok (s2, w) : Res (Src × Tx)) ∧ WOk w ∧ w.length ≤ 60 ∧ SrcOk 201 s2 := by
    split
    · obtain ⟨w, s2, e, p1, p2, p3, p4⟩ := word_ok (low := 17) (high := 60) k1 (by omega) (by omega) (by omega) (by omega)
      exact ⟨w, s2, by rw [e]; rfl, p1, by omega, p4⟩
    · obtain ⟨w, s2, e, p1, p2, p3, p4⟩ := word_ok (low := 0) (high := 16) k1 (by omega) (by omega) (by omega) (by omega)
      exact ⟨w, s2, by rw [e]; rfl, p1, by omega, p4⟩
  obtain ⟨w, s2, e2, wok, wlen, k2⟩ := hw
  rw [e2, Res.bind_ok]
  dsimp only
  obtain ⟨root, s3, e3, rok, r1, r2, k3⟩ := word_ok (low := 1) (high := 6) k2 (by omega) (by omega) (by omega) (by omega)
  rw [e3, Res.bind_ok]
  dsimp only
  obtain ⟨d4, s4, e4, a4, b4, k4⟩ := draw_ok (size := 3) k3 (by omega) (by omega) (sm _ (by omega))
  rw [e4, Res.bind_ok, Res.bind_ok]
  dsimp only
  have hm : root.length * (2 + d4).toNat ≤ 6 * 4 := Nat.mul_le_mul (by omega) (by omega)
  rw [xRep_ok (by omega) (by omega) (by omega), Res.bind_ok]
  obtain ⟨d5, s5, e5, a5, b5, k5⟩ := draw_ok (size := ((root.length : Nat) : Int)) k4 (by omega) (by omega) (sm _ (by omega))
  rw [e5, Res.bind_ok]
  dsimp only
  obtain ⟨n5, rfl⟩ : ∃ n5 : Nat, d5 = (n5 : Int) := ⟨d5.toNat, by omega⟩
  rw [cut_to]
  have tl1 : (List.replicate (2 + d4).toNat root).flatten.length ≤ 24 := by rw [rep_len, Nat.mul_comm]; omega
  have tl2 : (root.take n5).length ≤ 6 := by rw [List.length_take]; omega
  rw [xCat_ok (by omega), Res.bind_ok]
  have twok : WOk ((List.replicate (2 + d4).toNat root).flatten ++ root.take n5) := wok_app (rep_wok rok _) (wok_take rok _)
  have twl : ((List.replicate (2 + d4).toNat root).flatten ++ root.take n5).length ≤ 60 := by rw [List.length_append]; omega
  generalize (List.replicate (2 + d4).toNat root).flatten ++ root.take n5 = twin at twok twl
  obtain ⟨d6, s6, e6, a6, b6, k6⟩ := draw_ok (size := 26) k5 (by omega) (by omega) (sm _ (by omega))
  rw [e6, Res.bind_ok]
  dsimp only
  obtain ⟨lt, elt, hlt⟩ := abc_get a6 b6
  have elt' : xGet ([97, 98, 99, 100, 101, 102, 103, 104, 105, 106, 107, 108, 109, 110, 111, 112, 113, 114, 115, 116, 117, 118, 119, 120, 121, 122] : Tx) d6 = .ok [lt] := elt
  rw [elt', Res.bind_ok]
  obtain ⟨d7, s7, e7, a7, b7, k7⟩ := draw_ok (size := 8) k6 (by omega) (by omega) (sm _ (by omega))
  rw [e7, Res.bind_ok]
  dsimp only
  obtain ⟨sg, esg, hsg⟩ := sign_ok a7 b7
  rw [esg, Res.bind_ok]
  obtain ⟨d8, s8, e8, a8, b8, k8⟩ := draw_ok (size := ((w.length : Nat) : Int) + 1) k7 (by omega) (by omega) (sm _ (by omega))
  rw [e8, Res.bind_ok]
  dsimp only
  obtain ⟨n8, rfl⟩ : ∃ n8 : Nat, d8 = (n8 : Int) := ⟨d8.toNat, by omega⟩
  have l1 : (w.take n8).length ≤ 60 := by rw [List.length_take]; omega
  have l2 : (w.drop n8).length ≤ 60 := by rw [List.length_drop]; omega
  have l3 : (w.take n8 ++ [sg]).length ≤ 61 := by rw [List.length_append]; simp; omega
  rw [cut_to, cut_from, xCat_ok (by simp; omega), Res.bind_ok, xCat_ok (by omega), Res.bind_ok]
  have badl : (w.take n8 ++ [sg] ++ w.drop n8).length ≤ 1000 := by rw [List.length_append]; omega
  have badn : ¬ ((w.take n8 ++ [sg] ++ w.drop n8).length ≤ 60 ∧ WOk (w.take n8 ++ [sg] ++ w.drop n8)) := fun z => by
    have := z.2 sg (by simp)
    omega
  generalize w.take n8 ++ [sg] ++ w.drop n8 = bad at badl badn
  obtain ⟨d9, s9, e9, a9, b9, k9⟩ := draw_ok (size := 1000) k8 (by omega) (by omega) (sm _ (by omega))
  rw [e9, Res.bind_ok]
  dsimp only
  have lwok : WOk [lt] := fun c hc => by rw [List.mem_singleton.mp hc]; exact hlt
  rw [xRep_ok (w := [lt]) (n := 60) (by omega) (by omega) (by simp), Res.bind_ok]
  have l60 : ((List.replicate (60 : Int).toNat [lt]).flatten).length = 60 := by rw [rep_len]; rfl
  have w60 : WOk (List.replicate (60 : Int).toNat [lt]).flatten := rep_wok lwok _
  generalize (List.replicate (60 : Int).toNat [lt]).flatten = t60 at l60 w60
  have words : ∀ x ∈ [w, twin, w, t60, [lt], ([] : Tx)], WOk x ∧ x.length ≤ 60 := fun x hx => by
    simp only [List.mem_cons, List.not_mem_nil, or_false] at hx
    rcases hx with rfl | rfl | rfl | rfl | rfl | rfl
    · exact ⟨wok, wlen⟩
    · exact ⟨twok, twl⟩
    · exact ⟨wok, wlen⟩
    · exact ⟨w60, by omega⟩
    · exact ⟨lwok, by simp⟩
    · exact ⟨fun c hc => by simp at hc, by simp⟩
  rw [forR_all (s := ()) (fun x hx => ?_), Res.bind_ok]
  · dsimp only
    rw [rngR_ok (rgOk (by omega) (by omega) (by omega) (by omega)), Res.bind_ok, forR_all (s := ()) (fun x hx => ?_), Res.bind_ok]
    rw [xRep_ok (w := [lt]) (n := 61) (by omega) (by omega) (by simp), Res.bind_ok]
    have l61 : ((List.replicate (61 : Int).toNat [lt]).flatten).length = 61 := by rw [rep_len]; rfl
    rw [forR_all (s := ()) (fun t ht => ?_), Res.bind_ok]
    have hb : ¬ (t.length ≤ 60 ∧ WOk t) ∧ t.length ≤ 1000 := by
      simp only [List.mem_cons, List.not_mem_nil, or_false] at ht
      rcases ht with rfl | rfl
      · exact ⟨badn, badl⟩
      · exact ⟨fun z => by omega, by omega⟩
    rw [refused_ok hb.1 hb.2, refused_ok hb.1 hb.2]
    rfl
  · obtain ⟨xok, xlen⟩ := words x hx
    obtain ⟨L, lv, kn⟩ := kn_of xok xlen
    rw [kept_ok kn, Res.bind_ok, if_neg (by decide), Res.bind_ok, forR_all (s := ()) (fun c hc => ?_), Res.bind_ok]
    have hcc : c < 1 ∨ c > ((x.length : Nat) : Int) - 1 := by
      simp only [List.mem_cons, List.not_mem_nil, or_false] at hc
      rcases hc with rfl | rfl | rfl | rfl | rfl | rfl <;> omega
    rw [outside_ok xok xlen hcc]
    rfl
end G
namespace G
open PySem PySem.Spec PyProof.Rows L2 M
section
variable {Pg : Program} {w : World} {K : PySem.W.Frag} {mg : Str → Option Value} {base h : Heap}
abbrev si_BadWord : Stmt := (clsBody (top 2)).getD 0 (.Pass ⟨0, 0, 0, 0⟩)
theorem ok_ini_BadWord {C fI : Addr} {fd : FuncData} (F : Fun K "__init__" "BadWord.__init__" si_BadWord fI fd) (T : OexC K C) (hno : PySem.W.findIn K (.ref C) "word" = some none) : FnOk Pg w K mg base (L2N.CX Pg w) 1 fI fd ["self", "word"] (spIni C "word") := by
  refine okN F (N := ["self", "word"]) ⟨rfl, rfl, rfl, by decide +kernel, rfl, by decide +kernel, by decide +kernel⟩ (fun vs H Q E h => by obtain ⟨a, y, rfl, _⟩ := h; rfl) fun cdv A outer s H vs Q E hr h => ?_
  obtain ⟨a, y, rfl, ea, h⟩ := h
  exact ⟨_, pss_one (ps_ost (pv 0) (pv 1)), y, rfl, .ref a, rfl, a, C, rfl, T, hno, .inl ⟨ea, fun dx n ne => h dx n ne⟩⟩
abbrev si_OutOfBounds : Stmt := (clsBody (top 3)).getD 0 (.Pass ⟨0, 0, 0, 0⟩)
theorem ok_ini_OutOfBounds {C fI : Addr} {fd : FuncData} (F : Fun K "__init__" "OutOfBounds.__init__" si_OutOfBounds fI fd) (T : OexC K C) (hno : PySem.W.findIn K (.ref C) "value" = some none) : FnOk Pg w K mg base (L2N.CX Pg w) 1 fI fd ["self", "value"] (spIni C "value") := by
  refine okN F (N := ["self", "value"]) ⟨rfl, rfl, rfl, by decide +kernel, rfl, by decide +kernel, by decide +kernel⟩ (fun vs H Q E h => by obtain ⟨a, y, rfl, _⟩ := h; rfl) fun cdv A outer s H vs Q E hr h => ?_
  obtain ⟨a, y, rfl, ea, h⟩ := h
  exact ⟨_, pss_one (ps_ost (pv 0) (pv 1)), y, rfl, .ref a, rfl, a, C, rfl, T, hno, .inl ⟨ea, fun dx n ne => h dx n ne⟩⟩
abbrev si_TooMany : Stmt := (clsBody (top 4)).getD 0 (.Pass ⟨0, 0, 0, 0⟩)
theorem ok_ini_TooMany {C fI : Addr} {fd : FuncData} (F : Fun K "__init__" "TooMany.__init__" si_TooMany fI fd) (T : OexC K C) (hno : PySem.W.findIn K (.ref C) "most" = some none) : FnOk Pg w K mg base (L2N.CX Pg w) 1 fI fd ["self", "most"] (spIni C "most") := by
  refine okN F (N := ["self", "most"]) ⟨rfl, rfl, rfl, by decide +kernel, rfl, by decide +kernel, by decide +kernel⟩ (fun vs H Q E h => by obtain ⟨a, y, rfl, _⟩ := h; rfl) fun cdv A outer s H vs Q E hr h => ?_
  obtain ⟨a, y, rfl, ea, h⟩ := h
  exact ⟨_, pss_one (ps_ost (pv 0) (pv 1)), y, rfl, .ref a, rfl, a, C, rfl, T, hno, .inl ⟨ea, fun dx n ne => h dx n ne⟩⟩
theorem all_mk {fa : Addr} (X : K.In h) (G : h.Ns mainGlobals mg) (hfa : mg "law" = some (.ref fa))
    {f_law_source : Addr} {od_law_source an_law_source : Option Addr} {sl_law_source : Array (Option Value)} {oc_law_source kV_law_source dc_law_source pm_law_source cd_law_source ct_law_source : Value}
    {f_law_draw : Addr} {od_law_draw an_law_draw : Option Addr} {sl_law_draw : Array (Option Value)} {oc_law_draw kV_law_draw dc_law_draw pm_law_draw cd_law_draw ct_law_draw : Value}
    {f_law_word : Addr} {od_law_word an_law_word : Option Addr} {sl_law_word : Array (Option Value)} {oc_law_word kV_law_word dc_law_word pm_law_word cd_law_word ct_law_word : Value}
    {f_is_letters : Addr} {od_is_letters an_is_letters : Option Addr} {sl_is_letters : Array (Option Value)} {oc_is_letters kV_is_letters dc_is_letters pm_is_letters cd_is_letters ct_is_letters : Value}
    {f_is_word : Addr} {od_is_word an_is_word : Option Addr} {sl_is_word : Array (Option Value)} {oc_is_word kV_is_word dc_is_word pm_is_word cd_is_word ct_is_word : Value}
    {f_check_word : Addr} {od_check_word an_check_word : Option Addr} {sl_check_word : Array (Option Value)} {oc_check_word kV_check_word dc_check_word pm_check_word cd_check_word ct_check_word : Value}
    {f_check_range : Addr} {od_check_range an_check_range : Option Addr} {sl_check_range : Array (Option Value)} {oc_check_range kV_check_range dc_check_range pm_check_range cd_check_range ct_check_range : Value}
    {f_shortest_local : Addr} {od_shortest_local an_shortest_local : Option Addr} {sl_shortest_local : Array (Option Value)} {oc_shortest_local kV_shortest_local dc_shortest_local pm_shortest_local cd_shortest_local ct_shortest_local : Value}
    {f_local_period : Addr} {od_local_period an_local_period : Option Addr} {sl_local_period : Array (Option Value)} {oc_local_period kV_local_period dc_local_period pm_local_period cd_local_period ct_local_period : Value}
    {f_law_whole : Addr} {od_law_whole an_law_whole : Option Addr} {sl_law_whole : Array (Option Value)} {oc_law_whole kV_law_whole dc_law_whole pm_law_whole cd_law_whole ct_law_whole : Value}
    {f_law_outside : Addr} {od_law_outside an_law_outside : Option Addr} {sl_law_outside : Array (Option Value)} {oc_law_outside kV_law_outside dc_law_outside pm_law_outside cd_law_outside ct_law_outside : Value}
    {f_shortest_period : Addr} {od_shortest_period an_shortest_period : Option Addr} {sl_shortest_period : Array (Option Value)} {oc_shortest_period kV_shortest_period dc_shortest_period pm_shortest_period cd_shortest_period ct_shortest_period : Value}
    {f_least_period : Addr} {od_least_period an_least_period : Option Addr} {sl_least_period : Array (Option Value)} {oc_least_period kV_least_period dc_least_period pm_least_period cd_least_period ct_least_period : Value}
    {f_critical_cuts : Addr} {od_critical_cuts an_critical_cuts : Option Addr} {sl_critical_cuts : Array (Option Value)} {oc_critical_cuts kV_critical_cuts dc_critical_cuts pm_critical_cuts cd_critical_cuts ct_critical_cuts : Value}
    {f_law_refused : Addr} {od_law_refused an_law_refused : Option Addr} {sl_law_refused : Array (Option Value)} {oc_law_refused kV_law_refused dc_law_refused pm_law_refused cd_law_refused ct_law_refused : Value}
    {f_law_fits : Addr} {od_law_fits an_law_fits : Option Addr} {sl_law_fits : Array (Option Value)} {oc_law_fits kV_law_fits dc_law_fits pm_law_fits cd_law_fits ct_law_fits : Value}
    {f_law_least : Addr} {od_law_least an_law_least : Option Addr} {sl_law_least : Array (Option Value)} {oc_law_least kV_law_least dc_law_least pm_law_least cd_law_least ct_law_least : Value}
    {f_law_local : Addr} {od_law_local an_law_local : Option Addr} {sl_law_local : Array (Option Value)} {oc_law_local kV_law_local dc_law_local pm_law_local cd_law_local ct_law_local : Value}
    {f_law_same : Addr} {od_law_same an_law_same : Option Addr} {sl_law_same : Array (Option Value)} {oc_law_same kV_law_same dc_law_same pm_law_same cd_law_same ct_law_same : Value}
    {f_law_kept : Addr} {od_law_kept an_law_kept : Option Addr} {sl_law_kept : Array (Option Value)} {oc_law_kept kV_law_kept dc_law_kept pm_law_kept cd_law_kept ct_law_kept : Value}
    {f_law : Addr} {od_law an_law : Option Addr} {sl_law : Array (Option Value)} {oc_law kV_law dc_law pm_law cd_law ct_law : Value}
    {C_BadWord I_BadWord N_BadWord : Addr} {nm_BadWord q_BadWord : Str} {bs_BadWord bm_BadWord sub_BadWord : List Value} {sn_BadWord : List Str} {ab_BadWord : Bool} {col_BadWord : Option Bool} {dd_BadWord : Option Addr} {m0_BadWord m1_BadWord m2_BadWord m3_BadWord m5_BadWord : Option Value} {od_BadWord an_BadWord : Option Addr} {sl_BadWord : Array (Option Value)} {oc_BadWord dc_BadWord pm_BadWord cd_BadWord ct_BadWord kV_BadWord : Value}
    {C_OutOfBounds I_OutOfBounds N_OutOfBounds : Addr} {nm_OutOfBounds q_OutOfBounds : Str} {bs_OutOfBounds bm_OutOfBounds sub_OutOfBounds : List Value} {sn_OutOfBounds : List Str} {ab_OutOfBounds : Bool} {col_OutOfBounds : Option Bool} {dd_OutOfBounds : Option Addr} {m0_OutOfBounds m1_OutOfBounds m2_OutOfBounds m3_OutOfBounds m5_OutOfBounds : Option Value} {od_OutOfBounds an_OutOfBounds : Option Addr} {sl_OutOfBounds : Array (Option Value)} {oc_OutOfBounds dc_OutOfBounds pm_OutOfBounds cd_OutOfBounds ct_OutOfBounds kV_OutOfBounds : Value}
    {C_TooMany I_TooMany N_TooMany : Addr} {nm_TooMany q_TooMany : Str} {bs_TooMany bm_TooMany sub_TooMany : List Value} {sn_TooMany : List Str} {ab_TooMany : Bool} {col_TooMany : Option Bool} {dd_TooMany : Option Addr} {m0_TooMany m1_TooMany m2_TooMany m3_TooMany m5_TooMany : Option Value} {od_TooMany an_TooMany : Option Addr} {sl_TooMany : Array (Option Value)} {oc_TooMany dc_TooMany pm_TooMany cd_TooMany ct_TooMany kV_TooMany : Value}
    {C_WordError : Addr}
    (a_law_source : PySem.W.nsIn K mainGlobals "_law_source" = some (some (.ref f_law_source)))
    (l_law_source : K.lookup f_law_source = some ⟨oc_law_source, od_law_source, .func (PySem.W.fnOf "_law_source" "_law_source" (defArgs s_law_source) (defBody s_law_source) (defScope s_law_source) .none kV_law_source dc_law_source pm_law_source an_law_source cd_law_source ct_law_source), sl_law_source⟩)
    (c_law_source : PySem.W.codeIn K cd_law_source "_law_source" = true)
    (k_law_source : PySem.W.keepIn K (.ref f_law_source) = true)
    (a_law_draw : PySem.W.nsIn K mainGlobals "_law_draw" = some (some (.ref f_law_draw)))
    (l_law_draw : K.lookup f_law_draw = some ⟨oc_law_draw, od_law_draw, .func (PySem.W.fnOf "_law_draw" "_law_draw" (defArgs s_law_draw) (defBody s_law_draw) (defScope s_law_draw) .none kV_law_draw dc_law_draw pm_law_draw an_law_draw cd_law_draw ct_law_draw), sl_law_draw⟩)
    (c_law_draw : PySem.W.codeIn K cd_law_draw "_law_draw" = true)
    (k_law_draw : PySem.W.keepIn K (.ref f_law_draw) = true)
    (a_law_word : PySem.W.nsIn K mainGlobals "_law_word" = some (some (.ref f_law_word)))
    (l_law_word : K.lookup f_law_word = some ⟨oc_law_word, od_law_word, .func (PySem.W.fnOf "_law_word" "_law_word" (defArgs s_law_word) (defBody s_law_word) (defScope s_law_word) .none kV_law_word dc_law_word pm_law_word an_law_word cd_law_word ct_law_word), sl_law_word⟩)
    (c_law_word : PySem.W.codeIn K cd_law_word "_law_word" = true)
    (k_law_word : PySem.W.keepIn K (.ref f_law_word) = true)
    (a_is_letters : PySem.W.nsIn K mainGlobals "is_letters" = some (some (.ref f_is_letters)))
    (l_is_letters : K.lookup f_is_letters = some ⟨oc_is_letters, od_is_letters, .func (PySem.W.fnOf "is_letters" "is_letters" (defArgs s_is_letters) (defBody s_is_letters) (defScope s_is_letters) .none kV_is_letters dc_is_letters pm_is_letters an_is_letters cd_is_letters ct_is_letters), sl_is_letters⟩)
    (c_is_letters : PySem.W.codeIn K cd_is_letters "is_letters" = true)
    (k_is_letters : PySem.W.keepIn K (.ref f_is_letters) = true)
    (a_is_word : PySem.W.nsIn K mainGlobals "is_word" = some (some (.ref f_is_word)))
    (l_is_word : K.lookup f_is_word = some ⟨oc_is_word, od_is_word, .func (PySem.W.fnOf "is_word" "is_word" (defArgs s_is_word) (defBody s_is_word) (defScope s_is_word) .none kV_is_word dc_is_word pm_is_word an_is_word cd_is_word ct_is_word), sl_is_word⟩)
    (c_is_word : PySem.W.codeIn K cd_is_word "is_word" = true)
    (k_is_word : PySem.W.keepIn K (.ref f_is_word) = true)
    (a_check_word : PySem.W.nsIn K mainGlobals "check_word" = some (some (.ref f_check_word)))
    (l_check_word : K.lookup f_check_word = some ⟨oc_check_word, od_check_word, .func (PySem.W.fnOf "check_word" "check_word" (defArgs s_check_word) (defBody s_check_word) (defScope s_check_word) .none kV_check_word dc_check_word pm_check_word an_check_word cd_check_word ct_check_word), sl_check_word⟩)
    (c_check_word : PySem.W.codeIn K cd_check_word "check_word" = true)
    (k_check_word : PySem.W.keepIn K (.ref f_check_word) = true)
    (a_check_range : PySem.W.nsIn K mainGlobals "check_range" = some (some (.ref f_check_range)))
    (l_check_range : K.lookup f_check_range = some ⟨oc_check_range, od_check_range, .func (PySem.W.fnOf "check_range" "check_range" (defArgs s_check_range) (defBody s_check_range) (defScope s_check_range) .none kV_check_range dc_check_range pm_check_range an_check_range cd_check_range ct_check_range), sl_check_range⟩)
    (c_check_range : PySem.W.codeIn K cd_check_range "check_range" = true)
    (k_check_range : PySem.W.keepIn K (.ref f_check_range) = true)
    (a_shortest_local : PySem.W.nsIn K mainGlobals "shortest_local" = some (some (.ref f_shortest_local)))
    (l_shortest_local : K.lookup f_shortest_local = some ⟨oc_shortest_local, od_shortest_local, .func (PySem.W.fnOf "shortest_local" "shortest_local" (defArgs s_shortest_local) (defBody s_shortest_local) (defScope s_shortest_local) .none kV_shortest_local dc_shortest_local pm_shortest_local an_shortest_local cd_shortest_local ct_shortest_local), sl_shortest_local⟩)
    (c_shortest_local : PySem.W.codeIn K cd_shortest_local "shortest_local" = true)
    (k_shortest_local : PySem.W.keepIn K (.ref f_shortest_local) = true)
    (a_local_period : PySem.W.nsIn K mainGlobals "local_period" = some (some (.ref f_local_period)))
    (l_local_period : K.lookup f_local_period = some ⟨oc_local_period, od_local_period, .func (PySem.W.fnOf "local_period" "local_period" (defArgs s_local_period) (defBody s_local_period) (defScope s_local_period) .none kV_local_period dc_local_period pm_local_period an_local_period cd_local_period ct_local_period), sl_local_period⟩)
    (c_local_period : PySem.W.codeIn K cd_local_period "local_period" = true)
    (k_local_period : PySem.W.keepIn K (.ref f_local_period) = true)
    (a_law_whole : PySem.W.nsIn K mainGlobals "_law_whole" = some (some (.ref f_law_whole)))
    (l_law_whole : K.lookup f_law_whole = some ⟨oc_law_whole, od_law_whole, .func (PySem.W.fnOf "_law_whole" "_law_whole" (defArgs s_law_whole) (defBody s_law_whole) (defScope s_law_whole) .none kV_law_whole dc_law_whole pm_law_whole an_law_whole cd_law_whole ct_law_whole), sl_law_whole⟩)
    (c_law_whole : PySem.W.codeIn K cd_law_whole "_law_whole" = true)
    (k_law_whole : PySem.W.keepIn K (.ref f_law_whole) = true)
    (a_law_outside : PySem.W.nsIn K mainGlobals "_law_outside" = some (some (.ref f_law_outside)))
    (l_law_outside : K.lookup f_law_outside = some ⟨oc_law_outside, od_law_outside, .func (PySem.W.fnOf "_law_outside" "_law_outside" (defArgs s_law_outside) (defBody s_law_outside) (defScope s_law_outside) .none kV_law_outside dc_law_outside pm_law_outside an_law_outside cd_law_outside ct_law_outside), sl_law_outside⟩)
    (c_law_outside : PySem.W.codeIn K cd_law_outside "_law_outside" = true)
    (k_law_outside : PySem.W.keepIn K (.ref f_law_outside) = true)
    (a_shortest_period : PySem.W.nsIn K mainGlobals "shortest_period" = some (some (.ref f_shortest_period)))
    (l_shortest_period : K.lookup f_shortest_period = some ⟨oc_shortest_period, od_shortest_period, .func (PySem.W.fnOf "shortest_period" "shortest_period" (defArgs s_shortest_period) (defBody s_shortest_period) (defScope s_shortest_period) .none kV_shortest_period dc_shortest_period pm_shortest_period an_shortest_period cd_shortest_period ct_shortest_period), sl_shortest_period⟩)
    (c_shortest_period : PySem.W.codeIn K cd_shortest_period "shortest_period" = true)
    (k_shortest_period : PySem.W.keepIn K (.ref f_shortest_period) = true)
    (a_least_period : PySem.W.nsIn K mainGlobals "least_period" = some (some (.ref f_least_period)))
    (l_least_period : K.lookup f_least_period = some ⟨oc_least_period, od_least_period, .func (PySem.W.fnOf "least_period" "least_period" (defArgs s_least_period) (defBody s_least_period) (defScope s_least_period) .none kV_least_period dc_least_period pm_least_period an_least_period cd_least_period ct_least_period), sl_least_period⟩)
    (c_least_period : PySem.W.codeIn K cd_least_period "least_period" = true)
    (k_least_period : PySem.W.keepIn K (.ref f_least_period) = true)
    (a_critical_cuts : PySem.W.nsIn K mainGlobals "critical_cuts" = some (some (.ref f_critical_cuts)))
    (l_critical_cuts : K.lookup f_critical_cuts = some ⟨oc_critical_cuts, od_critical_cuts, .func (PySem.W.fnOf "critical_cuts" "critical_cuts" (defArgs s_critical_cuts) (defBody s_critical_cuts) (defScope s_critical_cuts) .none kV_critical_cuts dc_critical_cuts pm_critical_cuts an_critical_cuts cd_critical_cuts ct_critical_cuts), sl_critical_cuts⟩)
    (c_critical_cuts : PySem.W.codeIn K cd_critical_cuts "critical_cuts" = true)
    (k_critical_cuts : PySem.W.keepIn K (.ref f_critical_cuts) = true)
    (a_law_refused : PySem.W.nsIn K mainGlobals "_law_refused" = some (some (.ref f_law_refused)))
    (l_law_refused : K.lookup f_law_refused = some ⟨oc_law_refused, od_law_refused, .func (PySem.W.fnOf "_law_refused" "_law_refused" (defArgs s_law_refused) (defBody s_law_refused) (defScope s_law_refused) .none kV_law_refused dc_law_refused pm_law_refused an_law_refused cd_law_refused ct_law_refused), sl_law_refused⟩)
    (c_law_refused : PySem.W.codeIn K cd_law_refused "_law_refused" = true)
    (k_law_refused : PySem.W.keepIn K (.ref f_law_refused) = true)
    (a_law_fits : PySem.W.nsIn K mainGlobals "_law_fits" = some (some (.ref f_law_fits)))
    (l_law_fits : K.lookup f_law_fits = some ⟨oc_law_fits, od_law_fits, .func (PySem.W.fnOf "_law_fits" "_law_fits" (defArgs s_law_fits) (defBody s_law_fits) (defScope s_law_fits) .none kV_law_fits dc_law_fits pm_law_fits an_law_fits cd_law_fits ct_law_fits), sl_law_fits⟩)
    (c_law_fits : PySem.W.codeIn K cd_law_fits "_law_fits" = true)
    (k_law_fits : PySem.W.keepIn K (.ref f_law_fits) = true)
    (a_law_least : PySem.W.nsIn K mainGlobals "_law_least" = some (some (.ref f_law_least)))
    (l_law_least : K.lookup f_law_least = some ⟨oc_law_least, od_law_least, .func (PySem.W.fnOf "_law_least" "_law_least" (defArgs s_law_least) (defBody s_law_least) (defScope s_law_least) .none kV_law_least dc_law_least pm_law_least an_law_least cd_law_least ct_law_least), sl_law_least⟩)
    (c_law_least : PySem.W.codeIn K cd_law_least "_law_least" = true)
    (k_law_least : PySem.W.keepIn K (.ref f_law_least) = true)
    (a_law_local : PySem.W.nsIn K mainGlobals "_law_local" = some (some (.ref f_law_local)))
    (l_law_local : K.lookup f_law_local = some ⟨oc_law_local, od_law_local, .func (PySem.W.fnOf "_law_local" "_law_local" (defArgs s_law_local) (defBody s_law_local) (defScope s_law_local) .none kV_law_local dc_law_local pm_law_local an_law_local cd_law_local ct_law_local), sl_law_local⟩)
    (c_law_local : PySem.W.codeIn K cd_law_local "_law_local" = true)
    (k_law_local : PySem.W.keepIn K (.ref f_law_local) = true)
    (a_law_same : PySem.W.nsIn K mainGlobals "_law_same" = some (some (.ref f_law_same)))
    (l_law_same : K.lookup f_law_same = some ⟨oc_law_same, od_law_same, .func (PySem.W.fnOf "_law_same" "_law_same" (defArgs s_law_same) (defBody s_law_same) (defScope s_law_same) .none kV_law_same dc_law_same pm_law_same an_law_same cd_law_same ct_law_same), sl_law_same⟩)
    (c_law_same : PySem.W.codeIn K cd_law_same "_law_same" = true)
    (k_law_same : PySem.W.keepIn K (.ref f_law_same) = true)
    (a_law_kept : PySem.W.nsIn K mainGlobals "_law_kept" = some (some (.ref f_law_kept)))
    (l_law_kept : K.lookup f_law_kept = some ⟨oc_law_kept, od_law_kept, .func (PySem.W.fnOf "_law_kept" "_law_kept" (defArgs s_law_kept) (defBody s_law_kept) (defScope s_law_kept) .none kV_law_kept dc_law_kept pm_law_kept an_law_kept cd_law_kept ct_law_kept), sl_law_kept⟩)
    (c_law_kept : PySem.W.codeIn K cd_law_kept "_law_kept" = true)
    (k_law_kept : PySem.W.keepIn K (.ref f_law_kept) = true)
    (a_law : PySem.W.nsIn K mainGlobals "law" = some (some (.ref f_law)))
    (l_law : K.lookup f_law = some ⟨oc_law, od_law, .func (PySem.W.fnOf "law" "law" (defArgs s_law) (defBody s_law) (defScope s_law) .none kV_law dc_law pm_law an_law cd_law ct_law), sl_law⟩)
    (c_law : PySem.W.codeIn K cd_law "law" = true)
    (k_law : PySem.W.keepIn K (.ref f_law) = true)
    (hn0 : PySem.W.specialIn K (.builtin "object.__class__") "__get__" = some (some (.builtin "getset_descriptor.__get__")))
    (ht0 : PySem.W.takesIn K (.builtin "object.__class__") = some true)
    (a_BadWord : PySem.W.nsIn K mainGlobals "BadWord" = some (some (.ref C_BadWord)))
    (x_BadWord : K.lookup C_BadWord = some (excClassObj nm_BadWord q_BadWord C_BadWord N_BadWord bs_BadWord bm_BadWord true sn_BadWord sub_BadWord ab_BadWord col_BadWord dd_BadWord m0_BadWord m1_BadWord m2_BadWord m3_BadWord m5_BadWord "ValueError.__new__"))
    (rv_BadWord : PySem.HandSPX.refsVE bm_BadWord = true)
    (sa_BadWord : PySem.W.findIn K (.ref C_BadWord) "__setattr__" = some (some (.builtin "object.__setattr__")))
    (ga_BadWord : PySem.W.findIn K (.ref C_BadWord) "__getattribute__" = some (some (.builtin "BaseException.__getattribute__")))
    (gg_BadWord : PySem.W.findIn K (.ref C_BadWord) "__getattr__" = some none)
    (nb_BadWord : PySem.W.findIn K (.ref C_BadWord) "word" = some none)
    (i_BadWord : PySem.W.findIn K (.ref C_BadWord) "__init__" = some (some (.ref I_BadWord)))
    (t_BadWord : PySem.W.typeIn K (.ref I_BadWord) = some (.type "function"))
    (l_BadWord : K.lookup I_BadWord = some ⟨oc_BadWord, od_BadWord, .func (PySem.W.fnOf "__init__" "BadWord.__init__" (defArgs si_BadWord) (defBody si_BadWord) (defScope si_BadWord) .none kV_BadWord dc_BadWord pm_BadWord an_BadWord cd_BadWord ct_BadWord), sl_BadWord⟩)
    (c_BadWord : PySem.W.codeIn K cd_BadWord "BadWord.__init__" = true)
    (ki_BadWord : PySem.W.keepIn K (.ref I_BadWord) = true)
    (kC_BadWord : PySem.W.keepIn K (.ref C_BadWord) = true)
    (eC_BadWord : PySem.W.subIn K (.ref C_BadWord) (.type "BaseException") = some true)
    (tC_BadWord : PySem.W.typeIn K (.ref C_BadWord) = some (.type "type"))
    (hC_BadWord : PySem.W.hasDictIn K C_BadWord = true)
    (ha_BadWord : PySem.W.findIn K (.ref C_BadWord) "__class__" = some (some (.builtin "object.__class__")))
    (hm_BadWord : PySem.W.mroIn K C_BadWord (.type "object") = some true)
    (a_OutOfBounds : PySem.W.nsIn K mainGlobals "OutOfBounds" = some (some (.ref C_OutOfBounds)))
    (x_OutOfBounds : K.lookup C_OutOfBounds = some (excClassObj nm_OutOfBounds q_OutOfBounds C_OutOfBounds N_OutOfBounds bs_OutOfBounds bm_OutOfBounds true sn_OutOfBounds sub_OutOfBounds ab_OutOfBounds col_OutOfBounds dd_OutOfBounds m0_OutOfBounds m1_OutOfBounds m2_OutOfBounds m3_OutOfBounds m5_OutOfBounds "ValueError.__new__"))
    (rv_OutOfBounds : PySem.HandSPX.refsVE bm_OutOfBounds = true)
    (sa_OutOfBounds : PySem.W.findIn K (.ref C_OutOfBounds) "__setattr__" = some (some (.builtin "object.__setattr__")))
    (ga_OutOfBounds : PySem.W.findIn K (.ref C_OutOfBounds) "__getattribute__" = some (some (.builtin "BaseException.__getattribute__")))
    (gg_OutOfBounds : PySem.W.findIn K (.ref C_OutOfBounds) "__getattr__" = some none)
    (nb_OutOfBounds : PySem.W.findIn K (.ref C_OutOfBounds) "value" = some none)
    (i_OutOfBounds : PySem.W.findIn K (.ref C_OutOfBounds) "__init__" = some (some (.ref I_OutOfBounds)))
    (t_OutOfBounds : PySem.W.typeIn K (.ref I_OutOfBounds) = some (.type "function"))
    (l_OutOfBounds : K.lookup I_OutOfBounds = some ⟨oc_OutOfBounds, od_OutOfBounds, .func (PySem.W.fnOf "__init__" "OutOfBounds.__init__" (defArgs si_OutOfBounds) (defBody si_OutOfBounds) (defScope si_OutOfBounds) .none kV_OutOfBounds dc_OutOfBounds pm_OutOfBounds an_OutOfBounds cd_OutOfBounds ct_OutOfBounds), sl_OutOfBounds⟩)
    (c_OutOfBounds : PySem.W.codeIn K cd_OutOfBounds "OutOfBounds.__init__" = true)
    (ki_OutOfBounds : PySem.W.keepIn K (.ref I_OutOfBounds) = true)
    (kC_OutOfBounds : PySem.W.keepIn K (.ref C_OutOfBounds) = true)
    (eC_OutOfBounds : PySem.W.subIn K (.ref C_OutOfBounds) (.type "BaseException") = some true)
    (tC_OutOfBounds : PySem.W.typeIn K (.ref C_OutOfBounds) = some (.type "type"))
    (hC_OutOfBounds : PySem.W.hasDictIn K C_OutOfBounds = true)
    (ha_OutOfBounds : PySem.W.findIn K (.ref C_OutOfBounds) "__class__" = some (some (.builtin "object.__class__")))
    (hm_OutOfBounds : PySem.W.mroIn K C_OutOfBounds (.type "object") = some true)
    (a_TooMany : PySem.W.nsIn K mainGlobals "TooMany" = some (some (.ref C_TooMany)))
    (x_TooMany : K.lookup C_TooMany = some (excClassObj nm_TooMany q_TooMany C_TooMany N_TooMany bs_TooMany bm_TooMany true sn_TooMany sub_TooMany ab_TooMany col_TooMany dd_TooMany m0_TooMany m1_TooMany m2_TooMany m3_TooMany m5_TooMany "ValueError.__new__"))
    (rv_TooMany : PySem.HandSPX.refsVE bm_TooMany = true)
    (sa_TooMany : PySem.W.findIn K (.ref C_TooMany) "__setattr__" = some (some (.builtin "object.__setattr__")))
    (ga_TooMany : PySem.W.findIn K (.ref C_TooMany) "__getattribute__" = some (some (.builtin "BaseException.__getattribute__")))
    (gg_TooMany : PySem.W.findIn K (.ref C_TooMany) "__getattr__" = some none)
    (nb_TooMany : PySem.W.findIn K (.ref C_TooMany) "most" = some none)
    (i_TooMany : PySem.W.findIn K (.ref C_TooMany) "__init__" = some (some (.ref I_TooMany)))
    (t_TooMany : PySem.W.typeIn K (.ref I_TooMany) = some (.type "function"))
    (l_TooMany : K.lookup I_TooMany = some ⟨oc_TooMany, od_TooMany, .func (PySem.W.fnOf "__init__" "TooMany.__init__" (defArgs si_TooMany) (defBody si_TooMany) (defScope si_TooMany) .none kV_TooMany dc_TooMany pm_TooMany an_TooMany cd_TooMany ct_TooMany), sl_TooMany⟩)
    (c_TooMany : PySem.W.codeIn K cd_TooMany "TooMany.__init__" = true)
    (ki_TooMany : PySem.W.keepIn K (.ref I_TooMany) = true)
    (kC_TooMany : PySem.W.keepIn K (.ref C_TooMany) = true)
    (eC_TooMany : PySem.W.subIn K (.ref C_TooMany) (.type "BaseException") = some true)
    (tC_TooMany : PySem.W.typeIn K (.ref C_TooMany) = some (.type "type"))
    (hC_TooMany : PySem.W.hasDictIn K C_TooMany = true)
    (ha_TooMany : PySem.W.findIn K (.ref C_TooMany) "__class__" = some (some (.builtin "object.__class__")))
    (hm_TooMany : PySem.W.mroIn K C_TooMany (.type "object") = some true)
    (a_WordError : PySem.W.nsIn K mainGlobals "WordError" = some (some (.ref C_WordError)))
    (eC_WordError : PySem.W.subIn K (.ref C_WordError) (.type "BaseException") = some true)
    (tC_WordError : PySem.W.typeIn K (.ref C_WordError) = some (.type "type"))
    (hC_WordError : PySem.W.hasDictIn K C_WordError = true)
    (S0_BadWord : PySem.W.subIn K (.ref C_BadWord) (.ref C_BadWord) = some true)
    (S0_OutOfBounds : PySem.W.subIn K (.ref C_OutOfBounds) (.ref C_OutOfBounds) = some true)
    (S0_TooMany : PySem.W.subIn K (.ref C_TooMany) (.ref C_TooMany) = some true)
    (S_OutOfBounds_BadWord : PySem.W.subIn K (.ref C_OutOfBounds) (.ref C_BadWord) = some false)
    (S_TooMany_BadWord : PySem.W.subIn K (.ref C_TooMany) (.ref C_BadWord) = some false)
    (S_BadWord_OutOfBounds : PySem.W.subIn K (.ref C_BadWord) (.ref C_OutOfBounds) = some false)
    (S_TooMany_OutOfBounds : PySem.W.subIn K (.ref C_TooMany) (.ref C_OutOfBounds) = some false)
    (S_BadWord_TooMany : PySem.W.subIn K (.ref C_BadWord) (.ref C_TooMany) = some false)
    (S_OutOfBounds_TooMany : PySem.W.subIn K (.ref C_OutOfBounds) (.ref C_TooMany) = some false)
    (S_BadWord_WordError : PySem.W.subIn K (.ref C_BadWord) (.ref C_WordError) = some true)
    (S_OutOfBounds_WordError : PySem.W.subIn K (.ref C_OutOfBounds) (.ref C_WordError) = some true)
    (S_TooMany_WordError : PySem.W.subIn K (.ref C_TooMany) (.ref C_WordError) = some true)
    (z_abs : PySem.W.nsIn K mainGlobals "abs" = some none)
    (z_bool : PySem.W.nsIn K mainGlobals "bool" = some none)
    (z_int : PySem.W.nsIn K mainGlobals "int" = some none)
    (z_isinstance : PySem.W.nsIn K mainGlobals "isinstance" = some none)
    (z_len : PySem.W.nsIn K mainGlobals "len" = some none)
    (z_list : PySem.W.nsIn K mainGlobals "list" = some none)
    (z_max : PySem.W.nsIn K mainGlobals "max" = some none)
    (z_min : PySem.W.nsIn K mainGlobals "min" = some none)
    (z_range : PySem.W.nsIn K mainGlobals "range" = some none)
    : ∃ fd : FuncData, (∀ (s : Shared) (v : Value), BindsTo s fd ⟨[v], []⟩ [("script", v)]) ∧ ∀ base : Heap, K.In base → base.Ns mainGlobals mg → FnOk Pg w K mg base (L2N.CX Pg w) 6 fa fd ["script"] (spLaw m_law K) := by
  have e := hfa.symm.trans (PySem.W.mg_of X G a_law)
  cases e
  have F_law_source := fun_mk (st := s_law_source) l_law_source c_law_source k_law_source
  have b_law_source := F_law_source.binds (ps := ["script"]) fun _ _ _ _ _ _ us hl => match us, hl with | [_], _ => rfl
  have F_law_draw := fun_mk (st := s_law_draw) l_law_draw c_law_draw k_law_draw
  have b_law_draw := F_law_draw.binds (ps := ["source", "size"]) fun _ _ _ _ _ _ us hl => match us, hl with | [_, _], _ => rfl
  have F_law_word := fun_mk (st := s_law_word) l_law_word c_law_word k_law_word
  have b_law_word := F_law_word.binds (ps := ["source", "low", "high"]) fun _ _ _ _ _ _ us hl => match us, hl with | [_, _, _], _ => rfl
  have F_is_letters := fun_mk (st := s_is_letters) l_is_letters c_is_letters k_is_letters
  have b_is_letters := F_is_letters.binds (ps := ["text", "most"]) fun _ _ _ _ _ _ us hl => match us, hl with | [_, _], _ => rfl
  have F_is_word := fun_mk (st := s_is_word) l_is_word c_is_word k_is_word
  have b_is_word := F_is_word.binds (ps := ["text"]) fun _ _ _ _ _ _ us hl => match us, hl with | [_], _ => rfl
  have F_check_word := fun_mk (st := s_check_word) l_check_word c_check_word k_check_word
  have b_check_word := F_check_word.binds (ps := ["word"]) fun _ _ _ _ _ _ us hl => match us, hl with | [_], _ => rfl
  have F_check_range := fun_mk (st := s_check_range) l_check_range c_check_range k_check_range
  have b_check_range := F_check_range.binds (ps := ["value", "low", "high"]) fun _ _ _ _ _ _ us hl => match us, hl with | [_, _, _], _ => rfl
  have F_shortest_local := fun_mk (st := s_shortest_local) l_shortest_local c_shortest_local k_shortest_local
  have b_shortest_local := F_shortest_local.binds (ps := ["word", "cut"]) fun _ _ _ _ _ _ us hl => match us, hl with | [_, _], _ => rfl
  have F_local_period := fun_mk (st := s_local_period) l_local_period c_local_period k_local_period
  have b_local_period := F_local_period.binds (ps := ["word", "cut"]) fun _ _ _ _ _ _ us hl => match us, hl with | [_, _], _ => rfl
  have F_law_whole := fun_mk (st := s_law_whole) l_law_whole c_law_whole k_law_whole
  have b_law_whole := F_law_whole.binds (ps := ["thing"]) fun _ _ _ _ _ _ us hl => match us, hl with | [_], _ => rfl
  have F_law_outside := fun_mk (st := s_law_outside) l_law_outside c_law_outside k_law_outside
  have b_law_outside := F_law_outside.binds (ps := ["word", "cut"]) fun _ _ _ _ _ _ us hl => match us, hl with | [_, _], _ => rfl
  have F_shortest_period := fun_mk (st := s_shortest_period) l_shortest_period c_shortest_period k_shortest_period
  have b_shortest_period := F_shortest_period.binds (ps := ["word"]) fun _ _ _ _ _ _ us hl => match us, hl with | [_], _ => rfl
  have F_least_period := fun_mk (st := s_least_period) l_least_period c_least_period k_least_period
  have b_least_period := F_least_period.binds (ps := ["word"]) fun _ _ _ _ _ _ us hl => match us, hl with | [_], _ => rfl
  have F_critical_cuts := fun_mk (st := s_critical_cuts) l_critical_cuts c_critical_cuts k_critical_cuts
  have b_critical_cuts := F_critical_cuts.binds (ps := ["word"]) fun _ _ _ _ _ _ us hl => match us, hl with | [_], _ => rfl
  have F_law_refused := fun_mk (st := s_law_refused) l_law_refused c_law_refused k_law_refused
  have b_law_refused := F_law_refused.binds (ps := ["text", "which", "cut"]) fun _ _ _ _ _ _ us hl => match us, hl with | [_, _, _], _ => rfl
  have F_law_fits := fun_mk (st := s_law_fits) l_law_fits c_law_fits k_law_fits
  have b_law_fits := F_law_fits.binds (ps := ["word", "low", "high", "period"]) fun _ _ _ _ _ _ us hl => match us, hl with | [_, _, _, _], _ => rfl
  have F_law_least := fun_mk (st := s_law_least) l_law_least c_law_least k_law_least
  have b_law_least := F_law_least.binds (ps := ["word"]) fun _ _ _ _ _ _ us hl => match us, hl with | [_], _ => rfl
  have F_law_local := fun_mk (st := s_law_local) l_law_local c_law_local k_law_local
  have b_law_local := F_law_local.binds (ps := ["word", "cut"]) fun _ _ _ _ _ _ us hl => match us, hl with | [_, _], _ => rfl
  have F_law_same := fun_mk (st := s_law_same) l_law_same c_law_same k_law_same
  have b_law_same := F_law_same.binds (ps := ["told", "due"]) fun _ _ _ _ _ _ us hl => match us, hl with | [_, _], _ => rfl
  have F_law_kept := fun_mk (st := s_law_kept) l_law_kept c_law_kept k_law_kept
  have b_law_kept := F_law_kept.binds (ps := ["word"]) fun _ _ _ _ _ _ us hl => match us, hl with | [_], _ => rfl
  have F_law := fun_mk (st := s_law) l_law c_law k_law
  have b_law := F_law.binds (ps := ["script"]) fun _ _ _ _ _ _ us hl => match us, hl with | [_], _ => rfl
  have T_BadWord : OexC K C_BadWord := ⟨⟨_, _, _, _, _, _, _, _, _, _, _, _, _, _, _, x_BadWord, rv_BadWord⟩, sa_BadWord, eC_BadWord, tC_BadWord, kC_BadWord⟩
  have F_BadWord := fun_mk (st := si_BadWord) l_BadWord c_BadWord ki_BadWord
  have b_BadWord := F_BadWord.binds (ps := ["self", "word"]) fun _ _ _ _ _ _ us hl => match us, hl with | [_, _], _ => rfl
  have T_OutOfBounds : OexC K C_OutOfBounds := ⟨⟨_, _, _, _, _, _, _, _, _, _, _, _, _, _, _, x_OutOfBounds, rv_OutOfBounds⟩, sa_OutOfBounds, eC_OutOfBounds, tC_OutOfBounds, kC_OutOfBounds⟩
  have F_OutOfBounds := fun_mk (st := si_OutOfBounds) l_OutOfBounds c_OutOfBounds ki_OutOfBounds
  have b_OutOfBounds := F_OutOfBounds.binds (ps := ["self", "value"]) fun _ _ _ _ _ _ us hl => match us, hl with | [_, _], _ => rfl
  have T_TooMany : OexC K C_TooMany := ⟨⟨_, _, _, _, _, _, _, _, _, _, _, _, _, _, _, x_TooMany, rv_TooMany⟩, sa_TooMany, eC_TooMany, tC_TooMany, kC_TooMany⟩
  have F_TooMany := fun_mk (st := si_TooMany) l_TooMany c_TooMany ki_TooMany
  have b_TooMany := F_TooMany.binds (ps := ["self", "most"]) fun _ _ _ _ _ _ us hl => match us, hl with | [_, _], _ => rfl
  let T : Txt Pg w K mg := {
    a_law_source := _,
    d_law_source := _,
    F_law_source := F_law_source,
    g_law_source := PySem.W.mg_of X G a_law_source,
    b_law_source := b_law_source,
    a_law_draw := _,
    d_law_draw := _,
    F_law_draw := F_law_draw,
    g_law_draw := PySem.W.mg_of X G a_law_draw,
    b_law_draw := b_law_draw,
    a_law_word := _,
    d_law_word := _,
    F_law_word := F_law_word,
    g_law_word := PySem.W.mg_of X G a_law_word,
    b_law_word := b_law_word,
    a_is_letters := _,
    d_is_letters := _,
    F_is_letters := F_is_letters,
    g_is_letters := PySem.W.mg_of X G a_is_letters,
    b_is_letters := b_is_letters,
    a_is_word := _,
    d_is_word := _,
    F_is_word := F_is_word,
    g_is_word := PySem.W.mg_of X G a_is_word,
    b_is_word := b_is_word,
    a_check_word := _,
    d_check_word := _,
    F_check_word := F_check_word,
    g_check_word := PySem.W.mg_of X G a_check_word,
    b_check_word := b_check_word,
    a_check_range := _,
    d_check_range := _,
    F_check_range := F_check_range,
    g_check_range := PySem.W.mg_of X G a_check_range,
    b_check_range := b_check_range,
    a_shortest_local := _,
    d_shortest_local := _,
    F_shortest_local := F_shortest_local,
    g_shortest_local := PySem.W.mg_of X G a_shortest_local,
    b_shortest_local := b_shortest_local,
    a_local_period := _,
    d_local_period := _,
    F_local_period := F_local_period,
    g_local_period := PySem.W.mg_of X G a_local_period,
    b_local_period := b_local_period,
    a_law_whole := _,
    d_law_whole := _,
    F_law_whole := F_law_whole,
    g_law_whole := PySem.W.mg_of X G a_law_whole,
    b_law_whole := b_law_whole,
    a_law_outside := _,
    d_law_outside := _,
    F_law_outside := F_law_outside,
    g_law_outside := PySem.W.mg_of X G a_law_outside,
    b_law_outside := b_law_outside,
    a_shortest_period := _,
    d_shortest_period := _,
    F_shortest_period := F_shortest_period,
    g_shortest_period := PySem.W.mg_of X G a_shortest_period,
    b_shortest_period := b_shortest_period,
    a_least_period := _,
    d_least_period := _,
    F_least_period := F_least_period,
    g_least_period := PySem.W.mg_of X G a_least_period,
    b_least_period := b_least_period,
    a_critical_cuts := _,
    d_critical_cuts := _,
    F_critical_cuts := F_critical_cuts,
    g_critical_cuts := PySem.W.mg_of X G a_critical_cuts,
    b_critical_cuts := b_critical_cuts,
    a_law_refused := _,
    d_law_refused := _,
    F_law_refused := F_law_refused,
    g_law_refused := PySem.W.mg_of X G a_law_refused,
    b_law_refused := b_law_refused,
    a_law_fits := _,
    d_law_fits := _,
    F_law_fits := F_law_fits,
    g_law_fits := PySem.W.mg_of X G a_law_fits,
    b_law_fits := b_law_fits,
    a_law_least := _,
    d_law_least := _,
    F_law_least := F_law_least,
    g_law_least := PySem.W.mg_of X G a_law_least,
    b_law_least := b_law_least,
    a_law_local := _,
    d_law_local := _,
    F_law_local := F_law_local,
    g_law_local := PySem.W.mg_of X G a_law_local,
    b_law_local := b_law_local,
    a_law_same := _,
    d_law_same := _,
    F_law_same := F_law_same,
    g_law_same := PySem.W.mg_of X G a_law_same,
    b_law_same := b_law_same,
    a_law_kept := _,
    d_law_kept := _,
    F_law_kept := F_law_kept,
    g_law_kept := PySem.W.mg_of X G a_law_kept,
    b_law_kept := b_law_kept,
    a_law := _,
    d_law := _,
    F_law := F_law,
    g_law := PySem.W.mg_of X G a_law,
    b_law := b_law,
    k_local_period_0 := kbn_of (n := 0) (ks := ["word", "cut"]) (ps := ["word", "cut"]) [0, 1] F_local_period (fun _ _ _ _ _ _ us ws h1 h2 => match us, ws, h1, h2 with | [], [_, _], _, _ => rfl),
    k_least_period_1 := kbn_of (n := 0) (ks := ["word"]) (ps := ["word"]) [0] F_least_period (fun _ _ _ _ _ _ us ws h1 h2 => match us, ws, h1, h2 with | [], [_], _, _ => rfl),
    k_critical_cuts_2 := kbn_of (n := 0) (ks := ["word"]) (ps := ["word"]) [0] F_critical_cuts (fun _ _ _ _ _ _ us ws h1 h2 => match us, ws, h1, h2 with | [], [_], _, _ => rfl),
    z_abs := PySem.W.mg_none_of X G z_abs,
    z_bool := PySem.W.mg_none_of X G z_bool,
    z_int := PySem.W.mg_none_of X G z_int,
    z_isinstance := PySem.W.mg_none_of X G z_isinstance,
    z_len := PySem.W.mg_none_of X G z_len,
    z_list := PySem.W.mg_none_of X G z_list,
    z_max := PySem.W.mg_none_of X G z_max,
    z_min := PySem.W.mg_none_of X G z_min,
    z_range := PySem.W.mg_none_of X G z_range,
    C_BadWord := C_BadWord,
    I_BadWord := I_BadWord,
    D_BadWord := _,
    x_BadWord := fun {base} => ⟨PySem.W.mg_of X G a_BadWord, T_BadWord, i_BadWord, t_BadWord, ok_ini_BadWord F_BadWord T_BadWord nb_BadWord, b_BadWord, ⟨ga_BadWord, gg_BadWord, eC_BadWord, hC_BadWord, ha_BadWord, hn0, ht0, hm_BadWord⟩, ⟨ga_BadWord, gg_BadWord, eC_BadWord, hC_BadWord⟩, nb_BadWord⟩,
    C_OutOfBounds := C_OutOfBounds,
    I_OutOfBounds := I_OutOfBounds,
    D_OutOfBounds := _,
    x_OutOfBounds := fun {base} => ⟨PySem.W.mg_of X G a_OutOfBounds, T_OutOfBounds, i_OutOfBounds, t_OutOfBounds, ok_ini_OutOfBounds F_OutOfBounds T_OutOfBounds nb_OutOfBounds, b_OutOfBounds, ⟨ga_OutOfBounds, gg_OutOfBounds, eC_OutOfBounds, hC_OutOfBounds, ha_OutOfBounds, hn0, ht0, hm_OutOfBounds⟩, ⟨ga_OutOfBounds, gg_OutOfBounds, eC_OutOfBounds, hC_OutOfBounds⟩, nb_OutOfBounds⟩,
    C_TooMany := C_TooMany,
    I_TooMany := I_TooMany,
    D_TooMany := _,
    x_TooMany := fun {base} => ⟨PySem.W.mg_of X G a_TooMany, T_TooMany, i_TooMany, t_TooMany, ok_ini_TooMany F_TooMany T_TooMany nb_TooMany, b_TooMany, ⟨ga_TooMany, gg_TooMany, eC_TooMany, hC_TooMany, ha_TooMany, hn0, ht0, hm_TooMany⟩, ⟨ga_TooMany, gg_TooMany, eC_TooMany, hC_TooMany⟩, nb_TooMany⟩,
    gC_BadWord := PySem.W.mg_of X G a_BadWord,
    gC_OutOfBounds := PySem.W.mg_of X G a_OutOfBounds,
    gC_TooMany := PySem.W.mg_of X G a_TooMany,
    C_WordError := C_WordError,
    gC_WordError := PySem.W.mg_of X G a_WordError,
    q_BadWord_BadWord := kit_ref hC_BadWord tC_BadWord S0_BadWord S0_BadWord,
    q_OutOfBounds_BadWord := kit_ref hC_BadWord tC_BadWord S_OutOfBounds_BadWord S0_OutOfBounds,
    q_TooMany_BadWord := kit_ref hC_BadWord tC_BadWord S_TooMany_BadWord S0_TooMany,
    q_BadWord_OutOfBounds := kit_ref hC_OutOfBounds tC_OutOfBounds S_BadWord_OutOfBounds S0_BadWord,
    q_OutOfBounds_OutOfBounds := kit_ref hC_OutOfBounds tC_OutOfBounds S0_OutOfBounds S0_OutOfBounds,
    q_TooMany_OutOfBounds := kit_ref hC_OutOfBounds tC_OutOfBounds S_TooMany_OutOfBounds S0_TooMany,
    q_BadWord_TooMany := kit_ref hC_TooMany tC_TooMany S_BadWord_TooMany S0_BadWord,
    q_OutOfBounds_TooMany := kit_ref hC_TooMany tC_TooMany S_OutOfBounds_TooMany S0_OutOfBounds,
    q_TooMany_TooMany := kit_ref hC_TooMany tC_TooMany S0_TooMany S0_TooMany,
    w_BadWord_WordError := PySem.W.exm_ref eC_WordError hC_WordError tC_WordError S_BadWord_WordError,
    w_OutOfBounds_WordError := PySem.W.exm_ref eC_WordError hC_WordError tC_WordError S_OutOfBounds_WordError,
    w_TooMany_WordError := PySem.W.exm_ref eC_WordError hC_WordError tC_WordError S_TooMany_WordError }
  exact ⟨PySem.W.fnOf "law" "law" (defArgs s_law) (defBody s_law) (defScope s_law) .none kV_law dc_law pm_law an_law cd_law ct_law, fun s v => .of_eq rfl, fun base _ _ => (ok_law (base := base) T).imp fun vs H Q E h => spLaw_sp h⟩
end
theorem walk {l : PySem.W.OpenLaw} {q : Program} {loose : List Str} {XP : (Str → Option Value) → Heap → Prop} {YP : World → Heap → Prop} {d : DefRec} {K : Params → PySem.W.Frag} (hn : l.most = some 63) (hdf : d.params.defaults = [])
    (hY : ∀ (w : World) (h : Heap), YP w h → (K w.params).In h)
    (F : ∀ (w : World) (mg : Str → Option Value) (fa : Addr) (h : Heap), (K w.params).In h → h.Ns mainGlobals mg → mg d.name = some (.ref fa) →
      ∃ fd : FuncData, (∀ (s : Shared) (u : Value), BindsTo s fd ⟨[u], []⟩ [("script", u)]) ∧ ∀ base : Heap, (K w.params).In base → base.Ns mainGlobals mg → FnOk l.prog w (K w.params) mg base (L2N.CX l.prog w) 6 fa fd ["script"] (spLaw m_law (K w.params))) :
    PySem.W.WalkO q loose XP YP l.row.toRowW d [] (fun f vs => PySem.call f vs) :=
  L2.walk_of (n := 63) (k := 6) (x := "script") (CX := fun w => L2N.CX l.prog w) (sp := fun w => spLaw m_law (K w.params)) hn (by decide) hdf ⟨rfl, by decide, by decide⟩ hY F (fun w H a ns hl _ hS => spLaw_of law_all (K w.params) H a ns hl hS) fun _ _ _ _ _ z => no_CX z
end G
open PySem PySem.W PyProof.Rows
set_option maxRecDepth 100000 in
set_option maxHeartbeats 0 in
theorem PySem.Challenge.cw_wordruns_k49_critical_cuts_holds : PySem.Challenge.rw_wordruns_k49_critical_cuts.Holds := by
  w_on; o_law; k_head; (case hw => w_witness2)
  k_fill
  refine G.walk (l := PySem.Challenge.rw_wordruns_k49_critical_cuts) rfl rfl (fun w h Y => PySem.W.kIn_of Y) ?F
  case F =>
    intro w mg fa h KX GG hmg
    refine' G.all_mk KX GG hmg ?a_law_source ?l_law_source ?c_law_source ?k_law_source ?a_law_draw ?l_law_draw ?c_law_draw ?k_law_draw ?a_law_word ?l_law_word ?c_law_word ?k_law_word ?a_is_letters ?l_is_letters ?c_is_letters ?k_is_letters ?a_is_word ?l_is_word ?c_is_word ?k_is_word ?a_check_word ?l_check_word ?c_check_word ?k_check_word ?a_check_range ?l_check_range ?c_check_range ?k_check_range ?a_shortest_local ?l_shortest_local ?c_shortest_local ?k_shortest_local ?a_local_period ?l_local_period ?c_local_period ?k_local_period ?a_law_whole ?l_law_whole ?c_law_whole ?k_law_whole ?a_law_outside ?l_law_outside ?c_law_outside ?k_law_outside ?a_shortest_period ?l_shortest_period ?c_shortest_period ?k_shortest_period ?a_least_period ?l_least_period ?c_least_period ?k_least_period ?a_critical_cuts ?l_critical_cuts ?c_critical_cuts ?k_critical_cuts ?a_law_refused ?l_law_refused ?c_law_refused ?k_law_refused ?a_law_fits ?l_law_fits ?c_law_fits ?k_law_fits ?a_law_least ?l_law_least ?c_law_least ?k_law_least ?a_law_local ?l_law_local ?c_law_local ?k_law_local ?a_law_same ?l_law_same ?c_law_same ?k_law_same ?a_law_kept ?l_law_kept ?c_law_kept ?k_law_kept ?a_law ?l_law ?c_law ?k_law ?hn0 ?ht0 ?a_BadWord ?x_BadWord ?rv_BadWord ?sa_BadWord ?ga_BadWord ?gg_BadWord ?nb_BadWord ?i_BadWord ?t_BadWord ?l_BadWord ?c_BadWord ?ki_BadWord ?kC_BadWord ?eC_BadWord ?tC_BadWord ?hC_BadWord ?ha_BadWord ?hm_BadWord ?a_OutOfBounds ?x_OutOfBounds ?rv_OutOfBounds ?sa_OutOfBounds ?ga_OutOfBounds ?gg_OutOfBounds ?nb_OutOfBounds ?i_OutOfBounds ?t_OutOfBounds ?l_OutOfBounds ?c_OutOfBounds ?ki_OutOfBounds ?kC_OutOfBounds ?eC_OutOfBounds ?tC_OutOfBounds ?hC_OutOfBounds ?ha_OutOfBounds ?hm_OutOfBounds ?a_TooMany ?x_TooMany ?rv_TooMany ?sa_TooMany ?ga_TooMany ?gg_TooMany ?nb_TooMany ?i_TooMany ?t_TooMany ?l_TooMany ?c_TooMany ?ki_TooMany ?kC_TooMany ?eC_TooMany ?tC_TooMany ?hC_TooMany ?ha_TooMany ?hm_TooMany ?a_WordError ?eC_WordError ?tC_WordError ?hC_WordError ?S0_BadWord ?S0_OutOfBounds ?S0_TooMany ?S_OutOfBounds_BadWord ?S_TooMany_BadWord ?S_BadWord_OutOfBounds ?S_TooMany_OutOfBounds ?S_BadWord_TooMany ?S_OutOfBounds_TooMany ?S_BadWord_WordError ?S_OutOfBounds_WordError ?S_TooMany_WordError ?z_abs ?z_bool ?z_int ?z_isinstance ?z_len ?z_list ?z_max ?z_min ?z_range
    (case a_law_source => k_is)
    (case l_law_source => k_is)
    (case c_law_source => k_is)
    (case k_law_source => k_is)
    (case a_law_draw => k_is)
    (case l_law_draw => k_is)
    (case c_law_draw => k_is)
    (case k_law_draw => k_is)
    (case a_law_word => k_is)
    (case l_law_word => k_is)
    (case c_law_word => k_is)
    (case k_law_word => k_is)
    (case a_is_letters => k_is)
    (case l_is_letters => k_is)
    (case c_is_letters => k_is)
    (case k_is_letters => k_is)
    (case a_is_word => k_is)
    (case l_is_word => k_is)
    (case c_is_word => k_is)
    (case k_is_word => k_is)
    (case a_check_word => k_is)
    (case l_check_word => k_is)
    (case c_check_word => k_is)
    (case k_check_word => k_is)
    (case a_check_range => k_is)
    (case l_check_range => k_is)
    (case c_check_range => k_is)
    (case k_check_range => k_is)
    (case a_shortest_local => k_is)
    (case l_shortest_local => k_is)
    (case c_shortest_local => k_is)
    (case k_shortest_local => k_is)
    (case a_local_period => k_is)
    (case l_local_period => k_is)
    (case c_local_period => k_is)
    (case k_local_period => k_is)
    (case a_law_whole => k_is)
    (case l_law_whole => k_is)
    (case c_law_whole => k_is)
    (case k_law_whole => k_is)
    (case a_law_outside => k_is)
    (case l_law_outside => k_is)
    (case c_law_outside => k_is)
    (case k_law_outside => k_is)
    (case a_shortest_period => k_is)
    (case l_shortest_period => k_is)
    (case c_shortest_period => k_is)
    (case k_shortest_period => k_is)
    (case a_least_period => k_is)
    (case l_least_period => k_is)
    (case c_least_period => k_is)
    (case k_least_period => k_is)
    (case a_critical_cuts => k_is)
    (case l_critical_cuts => k_is)
    (case c_critical_cuts => k_is)
    (case k_critical_cuts => k_is)
    (case a_law_refused => k_is)
    (case l_law_refused => k_is)
    (case c_law_refused => k_is)
    (case k_law_refused => k_is)
    (case a_law_fits => k_is)
    (case l_law_fits => k_is)
    (case c_law_fits => k_is)
    (case k_law_fits => k_is)
    (case a_law_least => k_is)
    (case l_law_least => k_is)
    (case c_law_least => k_is)
    (case k_law_least => k_is)
    (case a_law_local => k_is)
    (case l_law_local => k_is)
    (case c_law_local => k_is)
    (case k_law_local => k_is)
    (case a_law_same => k_is)
    (case l_law_same => k_is)
    (case c_law_same => k_is)
    (case k_law_same => k_is)
    (case a_law_kept => k_is)
    (case l_law_kept => k_is)
    (case c_law_kept => k_is)
    (case k_law_kept => k_is)
    (case a_law => k_is)
    (case l_law => k_is)
    (case c_law => k_is)
    (case k_law => k_is)
    (case hn0 => k_is)
    (case ht0 => k_is)
    (case a_BadWord => k_is)
    (case x_BadWord => k_is)
    (case rv_BadWord => rfl)
    (case sa_BadWord => k_is)
    (case ga_BadWord => k_is)
    (case gg_BadWord => k_is)
    (case nb_BadWord => k_is)
    (case i_BadWord => k_is)
    (case t_BadWord => k_is)
    (case l_BadWord => k_is)
    (case c_BadWord => k_is)
    (case ki_BadWord => k_is)
    (case kC_BadWord => k_is)
    (case eC_BadWord => k_is)
    (case tC_BadWord => k_is)
    (case hC_BadWord => k_is)
    (case ha_BadWord => k_is)
    (case hm_BadWord => k_is)
    (case a_OutOfBounds => k_is)
    (case x_OutOfBounds => k_is)
    (case rv_OutOfBounds => rfl)
    (case sa_OutOfBounds => k_is)
    (case ga_OutOfBounds => k_is)
    (case gg_OutOfBounds => k_is)
    (case nb_OutOfBounds => k_is)
    (case i_OutOfBounds => k_is)
    (case t_OutOfBounds => k_is)
    (case l_OutOfBounds => k_is)
    (case c_OutOfBounds => k_is)
    (case ki_OutOfBounds => k_is)
    (case kC_OutOfBounds => k_is)
    (case eC_OutOfBounds => k_is)
    (case tC_OutOfBounds => k_is)
    (case hC_OutOfBounds => k_is)
    (case ha_OutOfBounds => k_is)
    (case hm_OutOfBounds => k_is)
    (case a_TooMany => k_is)
    (case x_TooMany => k_is)
    (case rv_TooMany => rfl)
    (case sa_TooMany => k_is)
    (case ga_TooMany => k_is)
    (case gg_TooMany => k_is)
    (case nb_TooMany => k_is)
    (case i_TooMany => k_is)
    (case t_TooMany => k_is)
    (case l_TooMany => k_is)
    (case c_TooMany => k_is)
    (case ki_TooMany => k_is)
    (case kC_TooMany => k_is)
    (case eC_TooMany => k_is)
    (case tC_TooMany => k_is)
    (case hC_TooMany => k_is)
    (case ha_TooMany => k_is)
    (case hm_TooMany => k_is)
    (case a_WordError => k_is)
    (case eC_WordError => k_is)
    (case tC_WordError => k_is)
    (case hC_WordError => k_is)
    (case S0_BadWord => first | rfl | k_is)
    (case S0_OutOfBounds => first | rfl | k_is)
    (case S0_TooMany => first | rfl | k_is)
    (case S_OutOfBounds_BadWord => k_is)
    (case S_TooMany_BadWord => k_is)
    (case S_BadWord_OutOfBounds => k_is)
    (case S_TooMany_OutOfBounds => k_is)
    (case S_BadWord_TooMany => k_is)
    (case S_OutOfBounds_TooMany => k_is)
    (case S_BadWord_WordError => k_is)
    (case S_OutOfBounds_WordError => k_is)
    (case S_TooMany_WordError => k_is)
    (case z_abs => k_is)
    (case z_bool => k_is)
    (case z_int => k_is)
    (case z_isinstance => k_is)
    (case z_len => k_is)
    (case z_list => k_is)
    (case z_max => k_is)
    (case z_min => k_is)
    (case z_range => k_is)
