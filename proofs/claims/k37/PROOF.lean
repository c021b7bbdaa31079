import PyProof.Rows.All
import Wide.All
import OpenK.AllK
import Wide.FinOn
import HandS.ForMost
import HandS.ForSpec
import HandS.CallSlots
import HandS.ExcInit
import HandS.ExcIs
import HandS.ExcField
import HandS.HotCalls
import HandS.SortInts
import HandS.IsInst
import HandS.Defaults
import HandS.Wide
import HandS.Flow
import PyProof.Rows.StrRevDown
import HandS.Conv
import HandS.Style
import HandS.NamedTupSort
import HandS.StrMore
import HandS.Star
import KE.GoesEnum
import HandS.Replace
import KE.DataMinMax
import HandS.RaiseMore
import HandS.SetFor
import HandS.Gcd
import HandS.SortKw
import KE.DatumOrd
import PySem.Challenge.RW_wordruns_k37_far_classes
set_option Elab.async false
set_option linter.all false
set_option maxRecDepth 100000
set_option maxHeartbeats 4000000
/-! A small typed layer over HandS: results, representations, owned data, environments. -/
namespace M
open PySem PySem.Spec PyProof.Rows L2

/-! ### results of a mirrored def -/
structure Exn where
  cls : Str
  fs : List (Str × V)
  deriving DecidableEq
inductive Res (α : Type) : Type where
  | ok (a : α) | exc (e : Exn) | bad
  deriving DecidableEq
def Res.bind {α β : Type} (m : Res α) (f : α → Res β) : Res β := match m with | .ok a => f a | .exc e => .exc e | .bad => .bad
def wp {α : Type} (m : Res α) (P : α → Prop) (X : Exn → Prop) : Prop := match m with | .ok a => P a | .exc e => X e | .bad => False
@[simp] theorem Res.bind_ok {α β : Type} (a : α) (f : α → Res β) : (Res.ok a).bind f = f a := rfl
@[simp] theorem Res.bind_exc {α β : Type} (e : Exn) (f : α → Res β) : (Res.exc e).bind f = .exc e := rfl
@[simp] theorem Res.bind_bad {α β : Type} (f : α → Res β) : (Res.bad : Res α).bind f = .bad := rfl
theorem Res.bind_assoc {α β γ : Type} (m : Res α) (f : α → Res β) (g : β → Res γ) : (m.bind f).bind g = m.bind fun a => (f a).bind g := by cases m <;> rfl
theorem wp_bind {α β : Type} {m : Res α} {f : α → Res β} {P : β → Prop} {X : Exn → Prop} : wp (m.bind f) P X ↔ wp m (fun a => wp (f a) P X) X := by cases m <;> exact Iff.rfl
theorem wp_mono {α : Type} {m : Res α} {P P' : α → Prop} {X X' : Exn → Prop} (h : wp m P X) (hP : ∀ a, P a → P' a) (hX : ∀ e, X e → X' e) : wp m P' X' := by
  cases m with
  | ok a => exact hP a h
  | exc e => exact hX e h
  | bad => exact h
theorem wp_ok {α : Type} {a : α} {P : α → Prop} {X : Exn → Prop} (h : P a) : wp (.ok a) P X := h

/-- a value whose making is not looked at -/
noncomputable def clo {α : Type} (r : α) : α := Classical.choose (⟨r, rfl⟩ : ∃ x, x = r)
theorem clo_eq {α : Type} (r : α) : clo r = r := Classical.choose_spec (⟨r, rfl⟩ : ∃ x, x = r)

/-! ### representations -/
class Rep (α : Type) where
  rp : PySem.W.Frag → Hp → V → α → Prop
  mono : ∀ {K : PySem.W.Frag} {I J : Hp} {v : V} {a : α}, Same I J → rp K I v a → rp K J v a
/-- a value that needs no heap -/
class Sca (α : Type) where
  enc : α → V
  okv : α → Prop
instance (priority := high) scaInt : Sca Int := ⟨V.int, fun _ => True⟩
instance (priority := high) scaBool : Sca Bool := ⟨V.bl, fun _ => True⟩
instance (priority := high) scaUnit : Sca Unit := ⟨fun _ => V.non, fun _ => True⟩
/-- the greatest length of a list, a text -/
def line : Nat := 16777216
theorem line_eq : line = sizeLine := by rw [sizeLine_eq]; rfl
/-- a text: its codes -/
abbrev Tx : Type := List Nat
def mkS (w : Tx) : Str := ⟨List.toArray w⟩
instance (priority := high) scaTx : Sca Tx := ⟨fun w => V.str (mkS w), fun w => w.length ≤ line⟩
instance (priority := high) repSca {α : Type} [Sca α] : Rep α := ⟨fun _ _ v a => v = Sca.enc a ∧ Sca.okv a, fun _ h => h⟩
theorem Paired.monoR {α : Type} {f g : V → α → Prop} (h : ∀ v a, f v a → g v a) : ∀ {vs : List V} {xs : List α}, Paired f vs xs → Paired g vs xs
  | _, _, .nil => .nil
  | _, _, .cons r t => .cons (h _ _ r) (Paired.monoR h t)
theorem same_seqT {K : PySem.W.Frag} {H H' : Hp} {a : Addr} {xs : List V} (e : Same H H') (h : SqT K H a xs) : SqT K H' a xs := by
  rcases h with h | h
  · rcases h with h | ⟨o, h⟩
    · exact .inl (.inl (e _ _ h))
    · exact .inl (.inr ⟨o, e _ _ h⟩)
  · exact .inr h
/-- a list -/
instance repList {α : Type} [Rep α] : Rep (List α) where
  rp K I v xs := ∃ a vs, v = .ref a ∧ I a = some (.lst vs) ∧ Paired (fun v x => Rep.rp K I v x) vs xs
  mono := fun e ⟨a, vs, e1, h, p⟩ => ⟨a, vs, e1, e _ _ h, Paired.monoR (fun _ _ q => Rep.mono e q) p⟩
/-- the law's script -/
structure Scr where
  l : List Int
instance repScr : Rep Scr where
  rp K I v x := ∃ a, v = .ref a ∧ SqL K I a (x.l.map V.int)
  mono := fun e ⟨a, e1, h⟩ => ⟨a, e1, e.seq h⟩
/-- a tuple of any length, of one kind -/
structure TupL (α : Type) where
  l : List α
instance repTupL {α : Type} [Rep α] : Rep (TupL α) where
  rp K I v xs := ∃ a vs, v = .ref a ∧ SqT K I a vs ∧ Paired (fun v x => Rep.rp K I v x) vs xs.l
  mono := fun e ⟨a, vs, e1, h, p⟩ => ⟨a, vs, e1, same_seqT e h, Paired.monoR (fun _ _ q => Rep.mono e q) p⟩
/-- a pair, a triple -/
instance repPair {α β : Type} [Rep α] [Rep β] : Rep (α × β) where
  rp K I v x := ∃ a v1 v2, v = .ref a ∧ SqT K I a [v1, v2] ∧ Rep.rp K I v1 x.1 ∧ Rep.rp K I v2 x.2
  mono := fun e ⟨a, v1, v2, e1, h, p, q⟩ => ⟨a, v1, v2, e1, same_seqT e h, Rep.mono e p, Rep.mono e q⟩
structure T3 (α β γ : Type) where
  a : α
  b : β
  c : γ
  deriving DecidableEq
instance repT3 {α β γ : Type} [Rep α] [Rep β] [Rep γ] : Rep (T3 α β γ) where
  rp K I v x := ∃ a v1 v2 v3, v = .ref a ∧ SqT K I a [v1, v2, v3] ∧ Rep.rp K I v1 x.a ∧ Rep.rp K I v2 x.b ∧ Rep.rp K I v3 x.c
  mono := fun e ⟨a, v1, v2, v3, e1, h, p, q, r⟩ => ⟨a, v1, v2, v3, e1, same_seqT e h, Rep.mono e p, Rep.mono e q, Rep.mono e r⟩
instance repOpt {α : Type} [Rep α] : Rep (Option α) where
  rp K I v x := match x with | none => v = .non | some y => Rep.rp K I v y
  mono := fun {K I J v x} e h => by
    cases x with
    | none => exact h
    | some y => exact Rep.mono (α := α) e h

/-! ### owned data: it may be changed; fp: its addresses -/
class Own (α : Type) where
  ow : PySem.W.Frag → List Addr → Hp → Hp → V → α → Prop
  mono : ∀ {K : PySem.W.Frag} {fp : List Addr} {I H I' H' : Hp} {v : V} {a : α}, Same I I' → (∀ b ∈ fp, H' b = H b) → ow K fp I H v a → ow K fp I' H' v a
instance ownList {α : Type} [Rep α] : Own (List α) where
  ow K fp I H v xs := ∃ p vs, v = .ref p ∧ fp = [p] ∧ H p = some (.lst vs) ∧ Paired (fun v x => Rep.rp K I v x) vs xs
  mono := fun e k ⟨p, vs, e1, e2, h, q⟩ => ⟨p, vs, e1, e2, by subst e2; rw [k p (by simp)]; exact h, Paired.monoR (fun _ _ z => Rep.mono e z) q⟩

/-! ### environments -/
inductive Cell : Type 1 where
  | any
  | im {α : Type} [Rep α] (a : α)
  | own {α : Type} [Own α] (a : α) (pn : Option V := none)
def CellR (K : PySem.W.Frag) (I H : Hp) (fp : List Addr) (o : Option V) (c : Cell) : Prop := match c with
  | .any => fp = []
  | @Cell.im α _ a => fp = [] ∧ ∃ v, o = some v ∧ Rep.rp (α := α) K I v a
  | @Cell.own α _ a pn => ∃ v, o = some v ∧ (∀ w, pn = some w → v = w) ∧ Own.ow (α := α) K fp I H v a
abbrev Ent := Option V × Cell
def Ents (K : PySem.W.Frag) (I H : Hp) : List Ent → List (List Addr) → Prop
  | [], [] => True
  | e :: es, f :: fs => CellR K I H f e.1 e.2 ∧ Ents K I H es fs
  | _, _ => False
def EnvL (K : PySem.W.Frag) (I H : Hp) (es : List Ent) : Prop :=
  Same I H ∧ ∃ fs, Ents K I H es fs ∧ fs.flatten.Nodup ∧ ∀ a ∈ fs.flatten, I a = none ∧ H a ≠ none

section
variable {K : PySem.W.Frag} {I H I' H' : Hp} {e e' : Ent} {es es' : List Ent} {o : Option V} {v : V} {c : Cell}
theorem Ents.perm (p : es.Perm es') : ∀ {fs : List (List Addr)}, Ents K I H es fs → ∃ fs', fs.Perm fs' ∧ Ents K I H es' fs' := by
  induction p with
  | nil => exact fun {fs} h => ⟨fs, .refl _, h⟩
  | cons x _ ih =>
    intro fs h
    cases fs with
    | nil => exact h.elim
    | cons f fs =>
      obtain ⟨fs', p', h'⟩ := ih h.2
      exact ⟨f :: fs', p'.cons f, h.1, h'⟩
  | swap x y l =>
    intro fs h
    cases fs with
    | nil => exact h.elim
    | cons f fs =>
      cases fs with
      | nil => exact h.2.elim
      | cons g fs => exact ⟨g :: f :: fs, .swap _ _ _, h.2.1, h.1, h.2.2⟩
  | trans _ _ ih1 ih2 =>
    intro fs h
    obtain ⟨f1, p1, h1⟩ := ih1 h
    obtain ⟨f2, p2, h2⟩ := ih2 h1
    exact ⟨f2, p1.trans p2, h2⟩
theorem EnvL.perm (p : es.Perm es') (h : EnvL K I H es) : EnvL K I H es' := by
  obtain ⟨s, fs, h1, h2, h3⟩ := h
  obtain ⟨fs', p', h'⟩ := Ents.perm p h1
  have q := p'.flatten
  exact ⟨s, fs', h', q.nodup_iff.mp h2, fun a ha => h3 a (q.mem_iff.mpr ha)⟩
theorem EnvL.tail (h : EnvL K I H (e :: es)) : EnvL K I H es := by
  obtain ⟨s, fs, h1, h2, h3⟩ := h
  cases fs with
  | nil => exact h1.elim
  | cons f fs =>
    rw [List.flatten_cons] at h2 h3
    exact ⟨s, fs, h1.2, (List.nodup_append.mp h2).2.1, fun a ha => h3 a (List.mem_append_right _ ha)⟩
theorem EnvL.any (h : EnvL K I H es) : EnvL K I H ((o, .any) :: es) := by
  obtain ⟨s, fs, h1, h2, h3⟩ := h
  exact ⟨s, [] :: fs, ⟨rfl, h1⟩, h2, h3⟩
theorem EnvL.im {α : Type} [Rep α] {a : α} (h : EnvL K I H es) (r : Rep.rp K I v a) : EnvL K I H ((some v, .im a) :: es) := by
  obtain ⟨s, fs, h1, h2, h3⟩ := h
  exact ⟨s, [] :: fs, ⟨⟨rfl, v, rfl, r⟩, h1⟩, h2, h3⟩
theorem EnvL.get {α : Type} [Rep α] {a : α} (h : EnvL K I H ((o, .im a) :: es)) : ∃ v, o = some v ∧ Rep.rp K I v a := by
  obtain ⟨s, fs, h1, _⟩ := h
  cases fs with
  | nil => exact h1.elim
  | cons f fs => exact h1.1.2
theorem EnvL.mem {α : Type} [Rep α] {a : α} (h : EnvL K I H es) (m : (o, Cell.im a) ∈ es) : ∃ v, o = some v ∧ Rep.rp K I v a := by
  obtain ⟨l1, l2, e⟩ := List.append_of_mem m
  subst e
  exact (h.perm List.perm_middle).get
/-- what changes at most: new things, and what is owned by nobody here -/
structure Grow (I H I' H' : Hp) : Prop where
  im : Same I I'
  sub : Same I' H'
  old : ∀ a, H a ≠ none → I' a = I a
  keep : Same H H'
theorem Grow.refl (h : Same I H) : Grow I H I H := ⟨Same.refl _, h, fun _ _ => rfl, Same.refl _⟩
theorem Ents.mono (hI : Same I I') : ∀ {es : List Ent} {fs : List (List Addr)}, (∀ a ∈ fs.flatten, H' a = H a) → Ents K I H es fs → Ents K I' H' es fs
  | [], [], _, _ => trivial
  | [], _ :: _, _, h => h.elim
  | _ :: _, [], _, h => h.elim
  | e :: es, f :: fs, k, h => by
    rw [List.flatten_cons] at k
    refine ⟨?_, Ents.mono hI (fun a ha => k a (List.mem_append_right _ ha)) h.2⟩
    have h1 := h.1
    obtain ⟨o, c⟩ := e
    cases c with
    | any => exact h1
    | im a =>
      obtain ⟨e1, v, e2, r⟩ := h1
      exact ⟨e1, v, e2, Rep.mono hI r⟩
    | own a pn =>
      obtain ⟨v, e2, e3, r⟩ := h1
      exact ⟨v, e2, e3, Own.mono hI (fun b hb => k b (List.mem_append_left _ hb)) r⟩
theorem EnvL.grow (g : Grow I H I' H') (h : EnvL K I H es) : EnvL K I' H' es := by
  obtain ⟨s, fs, h1, h2, h3⟩ := h
  have k : ∀ a ∈ fs.flatten, H' a = H a := fun a ha => by
    cases e : H a with
    | none => exact absurd e (h3 a ha).2
    | some o => exact g.keep a o e
  refine ⟨g.sub, fs, Ents.mono g.im k h1, h2, fun a ha => ⟨?_, ?_⟩⟩
  · rw [g.old a (h3 a ha).2]
    exact (h3 a ha).1
  · rw [k a ha]
    exact (h3 a ha).2
/-- a new immutable object -/
theorem Grow.newI {p : Addr} {u : HO} (s : Same I H) (hp : H p = none) : Grow I H (upd I p u) (upd H p u) := by
  have hi : I p = none := by
    cases e : I p with
    | none => rfl
    | some o => rw [s p o e] at hp; cases hp
  refine ⟨fun a o e => ?_, fun a o e => ?_, fun a e => ?_, fun a o e => ?_⟩
  · rw [upd_ne (ne_of_none e hi)]; exact e
  · by_cases q : a = p
    · subst q; rw [upd_same] at e ⊢; exact e
    · rw [upd_ne q] at e ⊢; exact s a o e
  · exact upd_ne fun q => e (by rw [q]; exact hp)
  · rw [upd_ne (ne_of_none e hp)]; exact e
/-- a new object that I does not tell -/
theorem Grow.newH {p : Addr} {u : HO} (s : Same I H) (hp : H p = none) : Grow I H I (upd H p u) := by
  refine ⟨Same.refl _, fun a o e => ?_, fun _ _ => rfl, fun a o e => ?_⟩
  · rw [upd_ne (ne_of_none (s a o e) hp)]; exact s a o e
  · rw [upd_ne (ne_of_none e hp)]; exact e
theorem EnvL.none_of (h : EnvL K I H es) {p : Addr} (hp : H p = none) : I p = none := by
  cases e : I p with
  | none => rfl
  | some o => rw [h.1 p o e] at hp; cases hp
theorem EnvL.repin {α : Type} [Own α] {a : α} {pn pn' : Option V} (h : EnvL K I H ((some v, .own a pn) :: es)) (hp : ∀ w, pn' = some w → v = w) : EnvL K I H ((some v, .own a pn') :: es) := by
  obtain ⟨s, fs, h1, h2, h3⟩ := h
  cases fs with
  | nil => exact h1.elim
  | cons f fs =>
    obtain ⟨⟨w, e1, _, q⟩, h1⟩ := h1
    cases e1
    exact ⟨s, f :: fs, ⟨⟨v, rfl, hp, q⟩, h1⟩, h2, h3⟩
theorem EnvL.pin {α : Type} [Own α] {a : α} {pn : Option V} (h : EnvL K I H ((some v, .own a pn) :: es)) : ∀ w, pn = some w → v = w := by
  obtain ⟨s, fs, h1, h2, h3⟩ := h
  cases fs with
  | nil => exact h1.elim
  | cons f fs =>
    obtain ⟨⟨w, e1, e2, q⟩, h1⟩ := h1
    cases e1
    exact e2
/-- a new owned list -/
theorem EnvL.newL {α : Type} [Rep α] {p : Addr} {vs : List V} {xs : List α} (h : EnvL K I H es) (hp : H p = none) (r : Paired (fun v x => Rep.rp K I v x) vs xs) : EnvL K I (upd H p (.lst vs)) ((some (.ref p), .own xs) :: es) := by
  have hi := h.none_of hp
  obtain ⟨s, fs, h1, h2, h3⟩ := h.grow (Grow.newH (u := .lst vs) h.1 hp)
  obtain ⟨_, fs0, h10, h20, h30⟩ := h
  have g := Grow.newH (u := .lst vs) (I := I) ‹_› hp
  refine ⟨s, [p] :: fs0, ⟨⟨.ref p, rfl, (fun _ z => nomatch z), p, vs, rfl, rfl, upd_same, r⟩, Ents.mono (Same.refl _) (fun a ha => upd_ne fun q => (h30 a ha).2 (by rw [q]; exact hp)) h10⟩, ?_, fun a ha => ?_⟩
  · rw [List.flatten_cons]
    refine List.nodup_append.mpr ⟨by simp, h20, fun a ha b hb q => ?_⟩
    have e : a = p := by simpa using ha
    subst e
    subst q
    exact (h30 _ hb).2 hp
  · rw [List.flatten_cons] at ha
    rcases List.mem_append.mp ha with ha | ha
    · have e : a = p := by simpa using ha
      subst e
      exact ⟨hi, by rw [upd_same]; exact fun z => nomatch z⟩
    · exact ⟨(h30 a ha).1, by rw [upd_ne fun q => (h30 a ha).2 (by rw [q]; exact hp)]; exact (h30 a ha).2⟩
/-- an owned list: it is there, it may be changed -/
theorem EnvL.ownL {α : Type} [Rep α] {xs : List α} {pn : Option V} (h : EnvL K I H ((o, .own xs pn) :: es)) : ∃ p vs, o = some (.ref p) ∧ H p = some (.lst vs) ∧ I p = none ∧ Paired (fun v x => Rep.rp K I v x) vs xs ∧
    (∀ {I' H' : Hp}, Grow I H I' H' → ∀ (vs' : List V) {β : Type} [Rep β] (ys : List β), Paired (fun v x => Rep.rp K I' v x) vs' ys → EnvL K I' (upd H' p (.lst vs')) ((o, .own ys pn) :: es)) ∧
    EnvL K (upd I p (.lst vs)) H ((o, .im xs) :: es) := by
  obtain ⟨s, fs, h1, h2, h3⟩ := id h
  cases fs with
  | nil => exact h1.elim
  | cons f fs =>
    obtain ⟨⟨v, e1, e0, p, vs, e2, e3, hp, r⟩, h1⟩ := h1
    dsimp only at e1
    subst e1 e2 e3
    rw [List.flatten_cons] at h2 h3
    have hn := List.nodup_append.mp h2
    have pI := (h3 p (by simp)).1
    have npf : ∀ a ∈ fs.flatten, a ≠ p := fun a ha q => hn.2.2 p (by simp) a ha q.symm
    refine ⟨p, vs, rfl, hp, pI, r, fun {I' H'} g vs' β _ ys r' => ?_, ?_⟩
    · have pI' : I' p = none := by rw [g.old p (by rw [hp]; exact fun z => nomatch z)]; exact pI
      refine ⟨fun a u e => ?_, [p] :: fs, ⟨⟨.ref p, rfl, e0, p, vs', rfl, rfl, upd_same, r'⟩, Ents.mono g.im (fun a ha => ?_) h1⟩, by rw [List.flatten_cons]; exact h2, fun a ha => ?_⟩
      · rw [upd_ne (ne_of_none e pI')]
        exact g.sub a u e
      · rw [upd_ne (npf a ha)]
        cases e : H a with
        | none => exact absurd e (h3 a (List.mem_append_right _ ha)).2
        | some u => exact g.keep a u e
      · rw [List.flatten_cons] at ha
        have q := h3 a ha
        refine ⟨by rw [g.old a q.2]; exact q.1, ?_⟩
        by_cases hap : a = p
        · rw [hap, upd_same]; exact fun z => nomatch z
        · rw [upd_ne hap]
          cases e : H a with
          | none => exact absurd e q.2
          | some u => rw [g.keep a u e]; exact fun z => nomatch z
    · have sI : Same I (upd I p (.lst vs)) := fun a u e => by rw [upd_ne (ne_of_none e pI)]; exact e
      refine ⟨fun a u e => ?_, [] :: fs, ⟨⟨rfl, .ref p, rfl, p, vs, rfl, upd_same, Paired.monoR (fun _ _ z => Rep.mono sI z) r⟩, Ents.mono sI (fun _ _ => rfl) h1⟩, hn.2.1, fun a ha => ?_⟩
      · by_cases hap : a = p
        · rw [hap, upd_same] at e; rw [hap, hp]; exact e
        · rw [upd_ne hap] at e; exact s a u e
      · have q := h3 a (List.mem_append_right _ ha)
        exact ⟨by rw [upd_ne (npf a ha)]; exact q.1, q.2⟩
end
end M
namespace M
open PySem PySem.Spec PyProof.Rows L2

/-! ### environments by slots and a stack -/
theorem perm_at {α : Type _} : ∀ {l : List α} {i : Nat} {e : α}, l[i]? = some e → ∃ r, l.Perm (e :: r) ∧ ∀ e', (l.set i e').Perm (e' :: r)
  | [], _, _, h => by simp at h
  | a :: l, 0, e, h => by
    have q : a = e := by simpa using h
    subst q
    exact ⟨l, .refl _, fun _ => .refl _⟩
  | a :: l, i + 1, e, h => by
    obtain ⟨r, p1, p2⟩ := perm_at (l := l) (i := i) (e := e) (by simpa using h)
    exact ⟨a :: r, (p1.cons a).trans (.swap _ _ _), fun e' => ((p2 e').cons a).trans (.swap _ _ _)⟩
theorem zip_at {α β : Type _} : ∀ {l : List α} {m : List β} {i : Nat} {a : α} {b : β}, l[i]? = some a → m[i]? = some b → (l.zip m)[i]? = some (a, b)
  | [], _, _, _, _, h, _ => by simp at h
  | _ :: _, [], _, _, _, _, h => by simp at h
  | x :: l, y :: m, 0, a, b, h, h' => by
    have e1 : x = a := by simpa using h
    have e2 : y = b := by simpa using h'
    subst e1 e2
    rfl
  | x :: l, y :: m, i + 1, a, b, h, h' => by
    have := zip_at (l := l) (m := m) (i := i) (a := a) (b := b) (by simpa using h) (by simpa using h')
    simpa using this
theorem zip_set {α β : Type _} : ∀ {l : List α} {m : List β} {i : Nat} {a : α} {b : β}, (l.set i a).zip (m.set i b) = (l.zip m).set i (a, b)
  | [], _, _, _, _ => by simp
  | _ :: _, [], _, _, _ => by simp
  | x :: l, y :: m, 0, a, b => by simp
  | x :: l, y :: m, i + 1, a, b => by simp [zip_set (l := l) (m := m) (i := i)]
theorem set_same {α : Type _} : ∀ {l : List α} {i : Nat} {a : α}, l[i]? = some a → l.set i a = l
  | [], _, _, h => by simp at h
  | x :: l, 0, a, h => by
    have e : x = a := by simpa using h
    subst e
    rfl
  | x :: l, i + 1, a, h => by
    have := set_same (l := l) (i := i) (a := a) (by simpa using h)
    simp [this]

def Env (K : PySem.W.Frag) (I H : Hp) (σ : List (Option V)) (Γ : List Cell) (ρ : List (Option V)) (Θ : List Cell) : Prop :=
  σ.length = Γ.length ∧ ρ.length = Θ.length ∧ EnvL K I H (σ.zip Γ ++ ρ.zip Θ)
section
variable {K : PySem.W.Frag} {I H I' H' : Hp} {σ ρ τ : List (Option V)} {Γ Γ' Θ Δ : List Cell} {i : Nat} {o : Option V} {v : V} {c c' : Cell}
theorem Env.slot (E : Env K I H σ Γ ρ Θ) (h : Γ[i]? = some c) : ∃ o, σ[i]? = some o := by
  have hl : i < Γ.length := (List.getElem?_eq_some_iff.mp h).1
  exact ⟨σ[i]'(by rw [E.1]; exact hl), List.getElem?_eq_getElem _⟩
/-- the entry at a slot, alone -/
theorem Env.pick (E : Env K I H σ Γ ρ Θ) (h : Γ[i]? = some c) : ∃ o r, σ[i]? = some o ∧ EnvL K I H ((o, c) :: r) ∧
    ∀ {I' H' : Hp} (o' : Option V) (c' : Cell), EnvL K I' H' ((o', c') :: r) → Env K I' H' (σ.set i o') (Γ.set i c') ρ Θ := by
  obtain ⟨o, ho⟩ := E.slot h
  obtain ⟨r, p1, p2⟩ := perm_at (zip_at ho h)
  refine ⟨o, r ++ ρ.zip Θ, ho, E.2.2.perm (p1.append_right _), fun o' c' q => ⟨by simp [E.1], E.2.1, ?_⟩⟩
  rw [zip_set]
  exact q.perm ((p2 (o', c')).symm.append_right _)
theorem Env.get {α : Type} [Rep α] {a : α} (E : Env K I H σ Γ ρ Θ) (h : Γ[i]? = some (.im a)) : ∃ v, σ[i]? = some (some v) ∧ Rep.rp K I v a := by
  obtain ⟨o, r, ho, e, _⟩ := E.pick h
  obtain ⟨v, e1, q⟩ := e.get
  subst e1
  exact ⟨v, ho, q⟩
theorem Env.sca {α : Type} [Sca α] {a : α} (E : Env K I H σ Γ ρ Θ) (h : Γ[i]? = some (.im a)) : σ[i]? = some (some (Sca.enc a)) ∧ Sca.okv a := by
  obtain ⟨v, ho, q⟩ := E.get h
  have e : v = Sca.enc a ∧ Sca.okv a := q
  rw [ho, e.1]
  exact ⟨rfl, e.2⟩
theorem Env.same (E : Env K I H σ Γ ρ Θ) : Same I H := E.2.2.1
theorem Env.toStack (E : Env K I H σ Γ ρ Θ) (h : EnvL K I' H' ((o, c) :: (σ.zip Γ ++ ρ.zip Θ))) : Env K I' H' σ Γ (o :: ρ) (c :: Θ) :=
  ⟨E.1, by simp [E.2.1], h.perm List.perm_middle.symm⟩
theorem Env.push {α : Type} [Rep α] {a : α} (E : Env K I H σ Γ ρ Θ) (r : Rep.rp K I v a) : Env K I H σ Γ (some v :: ρ) (.im a :: Θ) := E.toStack (E.2.2.im r)
theorem Env.pushS {α : Type} [Sca α] (E : Env K I H σ Γ ρ Θ) {a : α} (ok : Sca.okv a) : Env K I H σ Γ (some (Sca.enc a) :: ρ) (.im a :: Θ) := E.push ⟨rfl, ok⟩
theorem Env.unstack (E : Env K I H σ Γ (o :: ρ) (c :: Θ)) : EnvL K I H ((o, c) :: (σ.zip Γ ++ ρ.zip Θ)) := E.2.2.perm List.perm_middle
theorem Env.len (E : Env K I H σ Γ (o :: ρ) (c :: Θ)) : ρ.length = Θ.length := by have := E.2.1; simpa using this
theorem Env.pop (E : Env K I H σ Γ (o :: ρ) (c :: Θ)) : Env K I H σ Γ ρ Θ := ⟨E.1, E.len, E.unstack.tail⟩
theorem Env.top {α : Type} [Rep α] {a : α} (E : Env K I H σ Γ (o :: ρ) (.im a :: Θ)) : ∃ v, o = some v ∧ Rep.rp K I v a := E.unstack.get
theorem Env.topR {α : Type} [Rep α] {a : α} (E : Env K I H σ Γ (some v :: ρ) (.im a :: Θ)) : Rep.rp K I v a := by
  obtain ⟨w, e, r⟩ := E.top
  cases e
  exact r
theorem Env.grow (g : Grow I H I' H') (E : Env K I H σ Γ ρ Θ) : Env K I' H' σ Γ ρ Θ := ⟨E.1, E.2.1, E.2.2.grow g⟩
theorem Env.newL {α : Type} [Rep α] {p : Addr} {vs : List V} {xs : List α} (E : Env K I H σ Γ ρ Θ) (hp : H p = none) (r : Paired (fun v x => Rep.rp K I v x) vs xs) : Env K I (upd H p (.lst vs)) σ Γ (some (.ref p) :: ρ) (.own xs :: Θ) :=
  E.toStack (E.2.2.newL hp r)
/-- the top of the stack to a slot -/
theorem Env.store (E : Env K I H σ Γ (o :: ρ) (c :: Θ)) (hi : i < Γ.length) (hΓ : Γ.set i c = Γ') : Env K I H (σ.set i o) Γ' ρ Θ := by
  subst hΓ
  have h : Γ[i]? = some Γ[i] := List.getElem?_eq_getElem hi
  obtain ⟨o1, ho⟩ := Env.slot E h
  obtain ⟨r, p1, p2⟩ := perm_at (zip_at ho h)
  refine ⟨by simp [E.1], E.len, ?_⟩
  rw [zip_set]
  have q := E.unstack
  have q2 : EnvL K I H ((o1, Γ[i]) :: ((o, c) :: (r ++ ρ.zip Θ))) := q.perm (((p1.append_right _).cons _).trans (.swap _ _ _))
  exact q2.tail.perm ((p2 (o, c)).symm.append_right (ρ.zip Θ))
theorem Env.setS {α : Type} [Sca α] {a : α} (E : Env K I H σ Γ ρ Θ) (ok : Sca.okv a) (hi : i < Γ.length) (hΓ : Γ.set i (.im a) = Γ') : Env K I H (σ.set i (some (Sca.enc a))) Γ' ρ Θ := (E.pushS ok).store hi hΓ
/-- an owned list at a slot -/
theorem Env.ownAt {α : Type} [Rep α] {xs : List α} {pn : Option V} (E : Env K I H σ Γ ρ Θ) (h : Γ[i]? = some (.own xs pn)) : ∃ p vs, σ[i]? = some (some (.ref p)) ∧ H p = some (.lst vs) ∧ I p = none ∧ Paired (fun v x => Rep.rp K I v x) vs xs ∧
    (∀ {I' H' : Hp}, Grow I H I' H' → ∀ (vs' : List V) {β : Type} [Rep β] (ys : List β), Paired (fun v x => Rep.rp K I' v x) vs' ys → Env K I' (upd H' p (.lst vs')) σ (Γ.set i (.own ys pn)) ρ Θ) ∧
    Env K (upd I p (.lst vs)) H σ (Γ.set i (.im xs)) ρ Θ := by
  obtain ⟨o, r, ho, e, back⟩ := E.pick h
  obtain ⟨p, vs, e1, hp, pI, q, ch, fz⟩ := e.ownL
  subst e1
  have ss : σ.set i (some (V.ref p)) = σ := set_same ho
  refine ⟨p, vs, ho, hp, pI, q, fun {I' H'} g vs' β _ ys r' => ?_, ?_⟩
  · have z := back _ _ (ch g vs' ys r')
    rw [ss] at z
    exact z
  · have z := back _ _ fz
    rw [ss] at z
    exact z
/-- forgetting -/
def Wk : List Cell → List Cell → Prop
  | [], [] => True
  | c :: Γ, d :: Γ' => (d = .any ∨ c = d) ∧ Wk Γ Γ'
  | _, _ => False
theorem EnvL.weak {es : List Ent} : ∀ {σ : List (Option V)} {Γ Γ' : List Cell}, σ.length = Γ.length → Wk Γ Γ' → EnvL K I H (σ.zip Γ ++ es) → EnvL K I H (σ.zip Γ' ++ es) ∧ σ.length = Γ'.length
  | [], [], [], _, _, h => ⟨h, rfl⟩
  | [], [], _ :: _, _, w, _ => w.elim
  | _ :: _, [], _, l, _, _ => by simp at l
  | [], _ :: _, _, l, _, _ => by simp at l
  | _ :: _, _ :: _, [], _, w, _ => w.elim
  | o :: σ, c :: Γ, d :: Γ', l, w, h => by
    have l' : σ.length = Γ.length := by simpa using l
    rcases w.1 with e | e
    · subst e
      obtain ⟨q, q2⟩ := EnvL.weak l' w.2 h.tail
      exact ⟨q.any, by simp [q2]⟩
    · subst e
      have h2 : EnvL K I H (σ.zip Γ ++ ((o, c) :: es)) := h.perm List.perm_middle.symm
      obtain ⟨q, q2⟩ := EnvL.weak (es := (o, c) :: es) l' w.2 h2
      exact ⟨q.perm List.perm_middle, by simp [q2]⟩
theorem Env.weak (E : Env K I H σ Γ ρ Θ) (w : Wk Γ Γ') : Env K I H σ Γ' ρ Θ := by
  obtain ⟨q, q2⟩ := EnvL.weak E.1 w E.2.2
  exact ⟨q2, E.2.1, q⟩
/-- into a call: the arguments are on the stack, the last one on top -/
theorem Env.enter {vs : List (Option V)} {cs : List Cell} (hl : vs.length = cs.length) (E : Env K I H σ Γ (vs.reverse ++ ρ) (cs.reverse ++ Θ)) : Env K I H vs cs (σ ++ ρ) (Γ ++ Θ) := by
  have l2 := E.2.1
  simp only [List.length_append, List.length_reverse] at l2
  refine ⟨hl, by simp [E.1]; omega, ?_⟩
  have q := E.2.2
  rw [List.zip_append (by simp [hl])] at q
  rw [List.zip_append E.1]
  have e : vs.reverse.zip cs.reverse = (vs.zip cs).reverse := (List.reverse_zipWith hl).symm
  rw [e] at q
  refine q.perm ?_
  have p1 : (σ.zip Γ ++ ((vs.zip cs).reverse ++ ρ.zip Θ)).Perm ((vs.zip cs).reverse ++ (σ.zip Γ ++ ρ.zip Θ)) := by
    rw [← List.append_assoc, ← List.append_assoc]
    exact List.perm_append_comm.append_right _
  exact p1.trans ((List.reverse_perm _).append_right _)
theorem EnvL.drop {es : List Ent} : ∀ {l : List Ent}, EnvL K I H (l ++ es) → EnvL K I H es
  | [], h => h
  | _ :: l, h => EnvL.drop (l := l) h.tail
/-- out of a call: its parameters are gone, its value on the stack -/
theorem Env.leave {vs : List (Option V)} {cs : List Cell} (hl : σ.length = Γ.length) (E : Env K I H vs cs (o :: (σ ++ ρ)) (c :: (Γ ++ Θ))) : Env K I H σ Γ (o :: ρ) (c :: Θ) := by
  have q : EnvL K I H ((o, c) :: ((σ ++ ρ).zip (Γ ++ Θ))) := EnvL.drop E.2.2
  have l2 := E.2.1
  simp only [List.length_cons, List.length_append] at l2
  rw [List.zip_append hl] at q
  exact ⟨hl, by simp; omega, q.perm List.perm_middle.symm⟩
theorem Env.leave0 {vs : List (Option V)} {cs : List Cell} (hl : σ.length = Γ.length) (E : Env K I H vs cs (σ ++ ρ) (Γ ++ Θ)) : Env K I H σ Γ ρ Θ := by
  have q : EnvL K I H ((σ ++ ρ).zip (Γ ++ Θ)) := EnvL.drop E.2.2
  have l2 := E.2.1
  simp only [List.length_append] at l2
  rw [List.zip_append hl] at q
  exact ⟨hl, by omega, q⟩
/-- the locals that a def has beside its parameters -/
theorem Env.locals {n : Nat} (E : Env K I H σ Γ ρ Θ) : Env K I H (σ ++ List.replicate n none) (Γ ++ List.replicate n .any) ρ Θ := by
  refine ⟨by simp [E.1], E.2.1, ?_⟩
  rw [List.zip_append E.1]
  have all : ∀ n, EnvL K I H ((List.replicate n (none : Option V)).zip (List.replicate n Cell.any) ++ (σ.zip Γ ++ ρ.zip Θ)) := by
    intro n
    induction n with
    | zero => exact E.2.2
    | succ n ih => exact ih.any
  have q := all n
  refine q.perm ?_
  rw [← List.append_assoc]
  exact List.perm_append_comm.append_right _
end
end M
namespace M
open PySem PySem.Spec PyProof.Rows L2

/-! ### wishes kept together, for unification -/
def OpG (r : R2) (x y : V) (H : Hp) (Q : VK) : Prop := r x y H Q
def UnG (r : V → Hp → VK → Prop) (x : V) (H : Hp) (Q : VK) : Prop := r x H Q
def CbG (r : List V → Hp → VK → Prop) (xs : List V) (H : Hp) (Q : VK) : Prop := r xs H Q
def LsG (vs : List V) (H : Hp) (Q : VK) : Prop := vs.length ≤ sizeLine ∧ ∀ p, H p = none → Q (.ref p) (upd H p (.lst vs))
def NotG (v : V) (H : Hp) (Q : VK) : Prop := ∃ c, v = .bl c ∧ Q (.bl (!c)) H
def LcG (J : It) (g : TG) (tt : TT) (te : TE) (is : List Nat) (σ : L2.St) (H : Hp) (Q : VK) : Prop := ∀ D, H D = none → ∃ W : Nat → Nat → Hp → Prop, (∃ m, W 0 m (upd H D (.lst []))) ∧ ∀ i' m H, W i' m H →
      (J.stop i' H ∧ Q (.ref D) H) ∨ (J.go i' H ∧ ∃ Nx : Hp → Prop, (∀ H', Nx H' → ∃ m', m' < m ∧ W (i' + 1) m' H') ∧ ∀ x H', J.yld i' H x H' → g x (wipe σ is) H' fun σ2 H2 => wipe σ2 is = wipe σ is ∧ tt σ2 H2 fun b H3 =>
        if b = true then te σ2 H3 fun y H4 => ∃ acc, H4 D = some (.lst acc) ∧ acc.length < sizeLine ∧ Nx (upd H4 D (.lst (acc ++ [y]))) else Nx H3)
/-! ### heap-free expressions and tests -/
abbrev enc {α : Type} [Sca α] (a : α) : V := Sca.enc a
abbrev okv {α : Type} [Sca α] (a : α) : Prop := Sca.okv a
structure HF (K : PySem.W.Frag) (te : TE) (Γ : List Cell) {α : Type} [Sca α] (m : Res α) : Prop where
  run : ∀ {I H : Hp} {σ ρ : List (Option V)} {Θ : List Cell} (X : Exn → Prop) (Q : VK), Env K I H σ Γ ρ Θ → wp m (fun x => okv x → Q (enc x) H) X → te σ H Q
structure HT (K : PySem.W.Frag) (tt : TT) (Γ : List Cell) (m : Res Bool) : Prop where
  run : ∀ {I H : Hp} {σ ρ : List (Option V)} {Θ : List Cell} (X : Exn → Prop) (Q : Bool → Hp → Prop), Env K I H σ Γ ρ Θ → wp m (fun x => Q x H) X → tt σ H Q
structure HR (r : R2) {α β γ : Type} [Sca α] [Sca β] [Sca γ] (x : α) (y : β) (m : Res γ) : Prop where
  run : ∀ {H : Hp} (X : Exn → Prop) (Q : VK), okv x → okv y → wp m (fun z => okv z → Q (enc z) H) X → r (enc x) (enc y) H Q
structure HU (r : V → Hp → VK → Prop) {α γ : Type} [Sca α] [Sca γ] (x : α) (m : Res γ) : Prop where
  run : ∀ {H : Hp} (X : Exn → Prop) (Q : VK), okv x → wp m (fun z => okv z → Q (enc z) H) X → r (enc x) H Q
/-- a built-in of one, of two scalars -/
structure HC1 (r : List V → Hp → VK → Prop) {α γ : Type} [Sca α] [Sca γ] (x : α) (m : Res γ) : Prop where
  run : ∀ {H : Hp} (X : Exn → Prop) (Q : VK), okv x → wp m (fun z => okv z → Q (enc z) H) X → r [enc x] H Q
structure HC2 (r : List V → Hp → VK → Prop) {α β γ : Type} [Sca α] [Sca β] [Sca γ] (x : α) (y : β) (m : Res γ) : Prop where
  run : ∀ {H : Hp} (X : Exn → Prop) (Q : VK), okv x → okv y → wp m (fun z => okv z → Q (enc z) H) X → r [enc x, enc y] H Q
theorem wpb {α β : Type} {m : Res α} {f : α → Res β} {P : β → Prop} {X : Exn → Prop} {P' : α → Prop} (h : wp (m.bind f) P X) (k : ∀ a, wp (f a) P X → P' a) : wp m P' X := wp_mono (wp_bind.mp h) k fun _ z => z
section
variable {K : PySem.W.Frag} {Γ : List Cell} {ta tb te : TE} {tt tu : TT} {r : R2} {α β γ : Type} [Sca α] [Sca β] [Sca γ] {i : Nat}
theorem hf_var {a : α} (h : Γ[i]? = some (.im a)) : HF K (tVar i) Γ (.ok a) := .mk fun X Q E q => ⟨_, (E.sca h).1, q (E.sca h).2⟩
theorem hf_c {a : α} {v : V} (h : v = enc a) (ok : okv a) : HF K (tC v) Γ (.ok a) := .mk fun X Q E q => by
  subst h
  exact q ok
theorem hf_pp {x : α} {y : β} {m : Res γ} (hr : HR r x y m) (ha : HF K ta Γ (.ok x)) (hb : HF K tb Γ (.ok y)) : HF K (tOp r ta tb) Γ m := .mk fun X Q E q => ha.run X _ E fun ox => hb.run X _ E fun oy => hr.run X Q ox oy q
theorem hf_pm {x : α} {m2 : Res β} {m : β → Res γ} (hr : ∀ y, HR r x y (m y)) (ha : HF K ta Γ (.ok x)) (hb : HF K tb Γ m2) : HF K (tOp r ta tb) Γ (m2.bind m) := .mk fun X Q E q =>
  ha.run X _ E fun ox => hb.run X _ E (wpb q fun y q oy => (hr y).run X Q ox oy q)
theorem hf_mp {m1 : Res α} {y : β} {m : α → Res γ} (hr : ∀ x, HR r x y (m x)) (ha : HF K ta Γ m1) (hb : HF K tb Γ (.ok y)) : HF K (tOp r ta tb) Γ (m1.bind m) := .mk fun X Q E q =>
  ha.run X _ E (wpb q fun x q ox => hb.run X _ E fun oy => (hr x).run X Q ox oy q)
theorem hf_mm {m1 : Res α} {m2 : Res β} {m : α → β → Res γ} (hr : ∀ x y, HR r x y (m x y)) (ha : HF K ta Γ m1) (hb : HF K tb Γ m2) : HF K (tOp r ta tb) Γ (m1.bind fun x => m2.bind fun y => m x y) := .mk fun X Q E q =>
  ha.run X _ E (wpb q fun x q ox => hb.run X _ E (wpb q fun y q oy => (hr x y).run X Q ox oy q))
theorem hf_up {rU : V → Hp → VK → Prop} {x : α} {m : Res γ} (hr : HU rU x m) (ha : HF K ta Γ (.ok x)) : HF K (tUn rU ta) Γ m := .mk fun X Q E q => ha.run X _ E fun ox => hr.run X Q ox q
theorem hf_um {rU : V → Hp → VK → Prop} {m1 : Res α} {m : α → Res γ} (hr : ∀ x, HU rU x (m x)) (ha : HF K ta Γ m1) : HF K (tUn rU ta) Γ (m1.bind m) := .mk fun X Q E q =>
  ha.run X _ E (wpb q fun x q ox => (hr x).run X Q ox q)
theorem hf_c1p {rc : List V → Hp → VK → Prop} {x : α} {m : Res γ} (hr : HC1 rc x m) (ha : HF K ta Γ (.ok x)) : HF K (tCB rc (tCons ta tNil)) Γ m := .mk fun X Q E q => ha.run X _ E fun ox => hr.run X Q ox q
theorem hf_c1m {rc : List V → Hp → VK → Prop} {m1 : Res α} {m : α → Res γ} (hr : ∀ x, HC1 rc x (m x)) (ha : HF K ta Γ m1) : HF K (tCB rc (tCons ta tNil)) Γ (m1.bind m) := .mk fun X Q E q =>
  ha.run X _ E (wpb q fun x q ox => (hr x).run X Q ox q)
theorem hf_c2p {rc : List V → Hp → VK → Prop} {x : α} {y : β} {m : Res γ} (hr : HC2 rc x y m) (ha : HF K ta Γ (.ok x)) (hb : HF K tb Γ (.ok y)) : HF K (tCB rc (tCons ta (tCons tb tNil))) Γ m := .mk fun X Q E q =>
  ha.run X _ E fun ox => hb.run X _ E fun oy => hr.run X Q ox oy q
theorem hf_c2m {rc : List V → Hp → VK → Prop} {m1 : Res α} {m2 : Res β} {m : α → β → Res γ} (hr : ∀ x y, HC2 rc x y (m x y)) (ha : HF K ta Γ m1) (hb : HF K tb Γ m2) :
    HF K (tCB rc (tCons ta (tCons tb tNil))) Γ (m1.bind fun x => m2.bind fun y => m x y) := .mk fun X Q E q =>
  ha.run X _ E (wpb q fun x q ox => hb.run X _ E (wpb q fun y q oy => (hr x y).run X Q ox oy q))

/-! tests -/
theorem ht_tt {m : Res Bool} (h : HF K te Γ m) : HT K (tTest te) Γ m := .mk fun X Q E q => h.run X _ E (wp_mono q (fun b q _ => ⟨b, rfl, q⟩) fun _ z => z)
theorem ht_B {m : Res Bool} (h : HF K te Γ m) : HT K (tB te) Γ m := .mk fun X Q E q => h.run X _ E (wp_mono q (fun b q _ => ⟨b, rfl, q⟩) fun _ z => z)
theorem ht_not_p {b : Bool} (h : HT K tt Γ (.ok b)) : HT K (tNot tt) Γ (.ok (!b)) := .mk fun X Q E q => h.run X _ E q
theorem ht_not_m {m : Res Bool} (h : HT K tt Γ m) : HT K (tNot tt) Γ (m.bind fun b => .ok (!b)) := .mk fun X Q E q => h.run X _ E (wp_bind.mp q)
theorem ht_and_pp {a b : Bool} (h : HT K tt Γ (.ok a)) (h2 : HT K tu Γ (.ok b)) : HT K (tAnd tt tu) Γ (.ok (a && b)) := .mk fun X Q E q => h.run X _ E (by
  cases a with
  | true => exact h2.run X Q E q
  | false => exact q)
theorem ht_or_pp {a b : Bool} (h : HT K tt Γ (.ok a)) (h2 : HT K tu Γ (.ok b)) : HT K (tOr tt tu) Γ (.ok (a || b)) := .mk fun X Q E q => h.run X _ E (by
  cases a with
  | true => exact q
  | false => exact h2.run X Q E q)
theorem ht_and_m {m1 m2 : Res Bool} (h : HT K tt Γ m1) (h2 : HT K tu Γ m2) : HT K (tAnd tt tu) Γ (m1.bind fun a => if a = true then m2 else .ok false) := .mk fun X Q E q => h.run X _ E (wpb q fun a q => by
  cases a with
  | true => exact h2.run X Q E q
  | false => exact q)
theorem ht_or_m {m1 m2 : Res Bool} (h : HT K tt Γ m1) (h2 : HT K tu Γ m2) : HT K (tOr tt tu) Γ (m1.bind fun a => if a = true then .ok true else m2) := .mk fun X Q E q => h.run X _ E (wpb q fun a q => by
  cases a with
  | true => exact q
  | false => exact h2.run X Q E q)
theorem ht_and_pm {a : Bool} {m2 : Res Bool} (h : HT K tt Γ (.ok a)) (h2 : HT K tu Γ m2) : HT K (tAnd tt tu) Γ (if a = true then m2 else .ok false) := .mk fun X Q E q => h.run X _ E (by
  cases a with
  | true => exact h2.run X Q E q
  | false => exact q)
theorem ht_or_pm {a : Bool} {m2 : Res Bool} (h : HT K tt Γ (.ok a)) (h2 : HT K tu Γ m2) : HT K (tOr tt tu) Γ (if a = true then .ok true else m2) := .mk fun X Q E q => h.run X _ E (by
  cases a with
  | true => exact q
  | false => exact h2.run X Q E q)
/-! and, or, not, if-else as values -/
theorem hf_and_pp {a b : Bool} (h : HF K ta Γ (.ok a)) (h2 : HF K tb Γ (.ok b)) : HF K (tAndV ta tb) Γ (.ok (a && b)) := .mk fun X Q E q => h.run X _ E fun _ => ⟨a, rfl, by
  cases a with
  | true => exact h2.run X Q E q
  | false => exact q trivial⟩
theorem hf_or_pp {a b : Bool} (h : HF K ta Γ (.ok a)) (h2 : HF K tb Γ (.ok b)) : HF K (tOrV ta tb) Γ (.ok (a || b)) := .mk fun X Q E q => h.run X _ E fun _ => ⟨a, rfl, by
  cases a with
  | true => exact q trivial
  | false => exact h2.run X Q E q⟩
theorem hf_and_pm {a : Bool} {m2 : Res Bool} (h : HF K ta Γ (.ok a)) (h2 : HF K tb Γ m2) : HF K (tAndV ta tb) Γ (if a = true then m2 else .ok false) := .mk fun X Q E q => h.run X _ E fun _ => ⟨a, rfl, by
  cases a with
  | true => exact h2.run X Q E q
  | false => exact q trivial⟩
theorem hf_or_pm {a : Bool} {m2 : Res Bool} (h : HF K ta Γ (.ok a)) (h2 : HF K tb Γ m2) : HF K (tOrV ta tb) Γ (if a = true then .ok true else m2) := .mk fun X Q E q => h.run X _ E fun _ => ⟨a, rfl, by
  cases a with
  | true => exact q trivial
  | false => exact h2.run X Q E q⟩
theorem hf_and_m {m1 m2 : Res Bool} (h : HF K ta Γ m1) (h2 : HF K tb Γ m2) : HF K (tAndV ta tb) Γ (m1.bind fun a => if a = true then m2 else .ok false) := .mk fun X Q E q => h.run X _ E (wpb q fun a q _ => ⟨a, rfl, by
  cases a with
  | true => exact h2.run X Q E q
  | false => exact q trivial⟩)
theorem hf_or_m {m1 m2 : Res Bool} (h : HF K ta Γ m1) (h2 : HF K tb Γ m2) : HF K (tOrV ta tb) Γ (m1.bind fun a => if a = true then .ok true else m2) := .mk fun X Q E q => h.run X _ E (wpb q fun a q _ => ⟨a, rfl, by
  cases a with
  | true => exact q trivial
  | false => exact h2.run X Q E q⟩)
theorem hf_not_p {b : Bool} (h : HF K ta Γ (.ok b)) : HF K (tNotV ta) Γ (.ok (!b)) := .mk fun X Q E q => h.run X _ E fun _ => ⟨b, rfl, q trivial⟩
theorem hf_not_m {m : Res Bool} (h : HF K ta Γ m) : HF K (tNotV ta) Γ (m.bind fun b => .ok (!b)) := .mk fun X Q E q => h.run X _ E (wpb q fun b q _ => ⟨b, rfl, q trivial⟩)
theorem hf_if_p {b : Bool} {x y : α} (h : HT K tt Γ (.ok b)) (h1 : HF K ta Γ (.ok x)) (h2 : HF K tb Γ (.ok y)) : HF K (tIf tt ta tb) Γ (.ok (if b = true then x else y)) := .mk fun X Q E q => h.run X _ E (by
  cases b with
  | true => exact h1.run X Q E q
  | false => exact h2.run X Q E q)
theorem hf_if_m {m : Res Bool} {m1 m2 : Res α} (h : HT K tt Γ m) (h1 : HF K ta Γ m1) (h2 : HF K tb Γ m2) : HF K (tIf tt ta tb) Γ (m.bind fun b => if b = true then m1 else m2) := .mk fun X Q E q => h.run X _ E (wpb q fun b q => by
  cases b with
  | true => exact h1.run X Q E q
  | false => exact h2.run X Q E q)
/-- chains a op b op c -/
theorem hf_chain {δ : Type} [Sca δ] {r' : R2} {tc : TE} {x : α} {y : β} {z : δ} {b c : Bool} (hr : HR r x y (.ok b)) (hr' : HR r' y z (.ok c)) (ha : HF K ta Γ (.ok x)) (hb : HF K tb Γ (.ok y)) (hc : HF K tc Γ (.ok z)) :
    HF K (tChain r r' ta tb tc) Γ (.ok (b && c)) := .mk fun X Q E q => ha.run X _ E fun ox => hb.run X _ E fun oy => hr.run X _ ox oy fun _ => ⟨b, rfl, by
  cases b with
  | true => exact hc.run X _ E fun oz => hr'.run X Q oy oz q
  | false => exact q trivial⟩
end

/-! ### ints -/
noncomputable def mulI (x y : Int) : Res Int := clo (if x.natAbs.log2 + y.natAbs.log2 < 1000000 then .ok (x * y) else .bad)
def modI (x y : Int) : Res Int := if 0 < y then .ok (x % y) else .bad
noncomputable def divI (x y : Int) : Res Int := clo (if 0 < y ∧ y.natAbs.log2 < 9000 then .ok (x / y) else .bad)
def powI (x y : Int) : Res Int := if 0 ≤ y ∧ ((x.natAbs.log2 + 1 : Nat) : Int) * y ≤ 2 ^ 27 then .ok (x ^ y.toNat) else .bad
def CPowW (i j : Int) : Prop := 0 ≤ j ∧ ((i.natAbs.log2 + 1 : Nat) : Int) * j ≤ 2 ^ 27
theorem op_powW {X : Cx} : OpR X (binaryOp .Pow) (rI CPowW fun i j => .int (i ^ j.toNat)) := opI fun i j _ _ _ _ _ hc q => PyProof.Rows.pow_int hc.1 (by
  have b : Builtin.Int.intBits i ≤ i.natAbs.log2 + 1 := by
    unfold Builtin.Int.intBits
    split <;> omega
  have h1 : ((Builtin.Int.intBits i : Nat) : Int) * j ≤ ((i.natAbs.log2 + 1 : Nat) : Int) * j := Int.mul_le_mul_of_nonneg_right (by omega) hc.1
  exact Int.le_trans h1 hc.2) q
theorem hr_add {x y : Int} : HR (rI0 fun i j => .int (i + j)) x y (.ok (x + y)) := .mk fun X Q _ _ q => ⟨x, y, rfl, rfl, q trivial⟩
theorem hr_sub {x y : Int} : HR (rI0 fun i j => .int (i - j)) x y (.ok (x - y)) := .mk fun X Q _ _ q => ⟨x, y, rfl, rfl, q trivial⟩
theorem hr_mul {x y : Int} : HR (rI CMulW fun i j => .int (i * j)) x y (mulI x y) := .mk fun X Q _ _ q => by
  unfold mulI at q
  rw [clo_eq] at q
  split at q
  · rename_i h
    exact ⟨x, y, rfl, rfl, h, q trivial⟩
  · exact q.elim
theorem hr_mod {x y : Int} : HR (rI (fun _ j => 0 < j) fun i j => .int (i % j)) x y (modI x y) := .mk fun X Q _ _ q => by
  unfold modI at q
  split at q
  · rename_i h
    exact ⟨x, y, rfl, rfl, h, q trivial⟩
  · exact q.elim
theorem hr_div {x y : Int} : HR (rI CDivW fun i j => .int (i / j)) x y (divI x y) := .mk fun X Q _ _ q => by
  unfold divI at q
  rw [clo_eq] at q
  split at q
  · rename_i h
    exact ⟨x, y, rfl, rfl, h, q trivial⟩
  · exact q.elim
theorem hr_pow {x y : Int} : HR (rI CPowW fun i j => .int (i ^ j.toNat)) x y (powI x y) := .mk fun X Q _ _ q => by
  unfold powI at q
  split at q
  · rename_i h
    exact ⟨x, y, rfl, rfl, h, q trivial⟩
  · exact q.elim
theorem hr_lt {x y : Int} : HR (rI0 fun i j => .bl (decide (i < j))) x y (.ok (decide (x < y))) := .mk fun X Q _ _ q => ⟨x, y, rfl, rfl, q trivial⟩
theorem hr_le {x y : Int} : HR (rI0 fun i j => .bl (decide (i ≤ j))) x y (.ok (decide (x ≤ y))) := .mk fun X Q _ _ q => ⟨x, y, rfl, rfl, q trivial⟩
theorem hr_gt {x y : Int} : HR (rI0 fun i j => .bl (decide (j < i))) x y (.ok (decide (y < x))) := .mk fun X Q _ _ q => ⟨x, y, rfl, rfl, q trivial⟩
theorem hr_ge {x y : Int} : HR (rI0 fun i j => .bl (decide (j ≤ i))) x y (.ok (decide (y ≤ x))) := .mk fun X Q _ _ q => ⟨x, y, rfl, rfl, q trivial⟩
theorem dec_congr {p q : Prop} [Decidable p] [Decidable q] (h : p ↔ q) : decide p = decide q := by
  by_cases hp : p
  · rw [decide_eq_true hp, decide_eq_true (h.mp hp)]
  · rw [decide_eq_false hp, decide_eq_false (fun z => hp (h.mpr z))]
theorem hr_eq_of {α : Type} [Sca α] [DecidableEq α] {x y : α} (hs : scal (enc x) (enc y) = true) (hi : (enc x : V) = enc y → x = y) : HR rEq x y (.ok (decide (x = y))) := .mk fun X Q _ _ q => ⟨hs, by
  have e : decide ((Sca.enc x : V) = Sca.enc y) = decide (x = y) := dec_congr ⟨hi, fun h => by rw [h]⟩
  rw [e]
  exact q trivial⟩
theorem hr_ne_of {α : Type} [Sca α] [DecidableEq α] {x y : α} (hs : scal (enc x) (enc y) = true) (hi : (enc x : V) = enc y → x = y) : HR rNe x y (.ok (!decide (x = y))) := .mk fun X Q _ _ q => ⟨hs, by
  have e : decide ((Sca.enc x : V) = Sca.enc y) = decide (x = y) := dec_congr ⟨hi, fun h => by rw [h]⟩
  rw [e]
  exact q trivial⟩
theorem hr_eqI {x y : Int} : HR rEq x y (.ok (decide (x = y))) := hr_eq_of rfl fun h => V.int.inj h
theorem hr_neI {x y : Int} : HR rNe x y (.ok (!decide (x = y))) := hr_ne_of rfl fun h => V.int.inj h
theorem hr_eqB {x y : Bool} : HR rEq x y (.ok (decide (x = y))) := hr_eq_of rfl fun h => V.bl.inj h
theorem hr_neB {x y : Bool} : HR rNe x y (.ok (!decide (x = y))) := hr_ne_of rfl fun h => V.bl.inj h
theorem hu_neg {x : Int} : HU (rU fun i => .int (-i)) x (.ok (-x)) := .mk fun X Q _ q => ⟨x, rfl, q trivial⟩
theorem hc_abs {x : Int} : HC1 (fun xs H Q => ∃ i, xs = [V.int i] ∧ Q (.int (if i < 0 then -i else i)) H) x (.ok (if x < 0 then -x else x)) := .mk fun X Q _ q => ⟨x, rfl, q trivial⟩
theorem hc_int {x : Int} : HC1 (fun xs H Q => (∃ i, xs = [V.int i] ∧ Q (.int i) H) ∨ ∃ k, xs = [.bl k] ∧ Q (.int (if k then 1 else 0)) H) x (.ok x) := .mk fun X Q _ q => .inl ⟨x, rfl, q trivial⟩
theorem hc_intB {x : Bool} : HC1 (fun xs H Q => (∃ i, xs = [V.int i] ∧ Q (.int i) H) ∨ ∃ k, xs = [.bl k] ∧ Q (.int (if k then 1 else 0)) H) x (.ok (if x = true then 1 else (0 : Int))) := .mk fun X Q _ q => .inr ⟨x, rfl, q trivial⟩
theorem hc_max {x y : Int} : HC2 (fun xs H Q => ∃ i j, xs = [V.int i, .int j] ∧ Q (.int (if j > i then j else i)) H) x y (.ok (max x y)) := .mk fun X Q _ _ q => ⟨x, y, rfl, by
  have e : (if y > x then y else x) = max x y := by
    rw [Int.max_def]
    split <;> split <;> omega
  rw [e]
  exact q trivial⟩
theorem hc_min {x y : Int} : HC2 (fun xs H Q => ∃ i j, xs = [V.int i, .int j] ∧ Q (.int (if j < i then j else i)) H) x y (.ok (min x y)) := .mk fun X Q _ _ q => ⟨x, y, rfl, by
  have e : (if y < x then y else x) = min x y := by
    rw [Int.min_def]
    split <;> split <;> omega
  rw [e]
  exact q trivial⟩

theorem hf_is {K : PySem.W.Frag} {te : TE} {Γ : List Cell} {α : Type} [Sca α] {m m' : Res α} (h : HF K te Γ m) (e : m = m') : HF K te Γ m' := by rw [← e]; exact h
/-! ### texts -/
theorem mkS_len (w : Tx) : (mkS w).length = List.length w := by simp [mkS, Str.length]
theorem mkS_list (w : Tx) : (mkS w).cps.toList = w := by simp [mkS]
theorem mkS_inj {a b : Tx} (h : mkS a = mkS b) : a = b := by
  have e := congrArg (fun s => s.cps.toList) h
  simp only [mkS_list] at e
  exact e
theorem mkS_app (a b : Tx) : mkS a ++ mkS b = mkS (a ++ b) := by
  apply ext_toList
  show (Array.append (mkS a).cps (mkS b).cps).toList = _
  simp [mkS]
theorem hr_eqT {x y : Tx} : HR rEq x y (.ok (decide (x = y))) := hr_eq_of rfl fun h => mkS_inj (V.str.inj h)
theorem hr_neT {x y : Tx} : HR rNe x y (.ok (!decide (x = y))) := hr_ne_of rfl fun h => mkS_inj (V.str.inj h)
noncomputable def xCat (a b : Tx) : Res Tx := clo (if a.length + b.length ≤ line then .ok (a ++ b) else .bad)
def xGet (w : Tx) (i : Int) : Res Tx := match atI w i with | some c => .ok [c] | none => .bad
def cutL {α : Type} (xs : List α) (lo hi : Option Int) : List α := (xs.drop (HT.sIx xs.length 0 lo)).take (HT.sIx xs.length xs.length hi - HT.sIx xs.length 0 lo)
theorem cutL_len {α : Type} (xs : List α) (lo hi : Option Int) : (cutL xs lo hi).length ≤ xs.length := by
  unfold cutL
  rw [List.length_take, List.length_drop]
  omega
theorem hr_catT {x y : Tx} : HR (fun x y H Q => ∃ i j, x = V.str i ∧ y = V.str j ∧ i.length + j.length ≤ sizeLine ∧ Q (.str (i ++ j)) H) x y (xCat x y) := .mk fun X Q _ _ q => by
  unfold xCat at q
  rw [clo_eq] at q
  split at q
  · rename_i h
    refine ⟨mkS x, mkS y, rfl, rfl, by rw [mkS_len, mkS_len, ← line_eq]; exact h, ?_⟩
    rw [mkS_app]
    exact q (by show (x ++ y).length ≤ line; rw [List.length_append]; exact h)
  · exact q.elim
def xLt (a b : Tx) : Bool := decide (a < b)
def xGt (a b : Tx) : Bool := decide (b < a)
def xLe (a b : Tx) : Bool := !decide (b < a)
def xGe (a b : Tx) : Bool := !decide (a < b)
theorem hr_ltT {x y : Tx} : HR (fun x y H Q => ∃ i j, x = V.str i ∧ y = V.str j ∧ Q (.bl (decide (i.cps.toList < j.cps.toList))) H) x y (.ok (xLt x y)) := .mk fun X Q _ _ q => ⟨mkS x, mkS y, rfl, rfl, by
  rw [mkS_list, mkS_list]
  exact q trivial⟩
theorem hr_gtT {x y : Tx} : HR (fun x y H Q => ∃ i j, x = V.str i ∧ y = V.str j ∧ Q (.bl (decide (j.cps.toList < i.cps.toList))) H) x y (.ok (xGt x y)) := .mk fun X Q _ _ q => ⟨mkS x, mkS y, rfl, rfl, by
  rw [mkS_list, mkS_list]
  exact q trivial⟩
theorem hr_leT {x y : Tx} : HR (fun x y H Q => ∃ i j, x = V.str i ∧ y = V.str j ∧ Q (.bl (!decide (j.cps.toList < i.cps.toList))) H) x y (.ok (xLe x y)) := .mk fun X Q _ _ q => ⟨mkS x, mkS y, rfl, rfl, by
  rw [mkS_list, mkS_list]
  exact q trivial⟩
theorem hr_geT {x y : Tx} : HR (fun x y H Q => ∃ i j, x = V.str i ∧ y = V.str j ∧ Q (.bl (!decide (i.cps.toList < j.cps.toList))) H) x y (.ok (xGe x y)) := .mk fun X Q _ _ q => ⟨mkS x, mkS y, rfl, rfl, by
  rw [mkS_list, mkS_list]
  exact q trivial⟩
theorem one_ok (c : Nat) : okv ([c] : Tx) := by show 1 ≤ line; decide
theorem hr_getT {x : Tx} {i : Int} : HR rIxS x i (xGet x i) := .mk fun X Q ox _ q => by
  unfold xGet at q
  cases e : atI x i with
  | none => rw [e] at q; exact q.elim
  | some c =>
    rw [e] at q
    exact ⟨mkS x, i, c, rfl, rfl, by rw [mkS_len, ← line_eq]; exact ox, by rw [mkS_list]; exact e, q (one_ok c)⟩
theorem hc_lenT {x : Tx} : HC1 (fun xs H Q => ∃ z : Str, xs = [V.str z] ∧ z.length ≤ sizeLine ∧ Q (.int z.length) H) x (.ok ((x.length : Nat) : Int)) := .mk fun X Q ox q =>
  ⟨mkS x, rfl, by rw [mkS_len, ← line_eq]; exact ox, by rw [mkS_len]; exact q trivial⟩
/-- slices of texts -/
structure HSl (K : PySem.W.Frag) (to : TO) (Γ : List Cell) (m : Res (Option Int)) : Prop where
  run : ∀ {I H : Hp} {σ ρ : List (Option V)} {Θ : List Cell} (X : Exn → Prop) (Q : Option Int → Hp → Prop), Env K I H σ Γ ρ Θ → wp m (fun x => Q x H) X → to σ H Q
section
variable {K : PySem.W.Frag} {Γ : List Cell} {te : TE} {tl th : TO}
theorem ho_none : HSl K tNoPart Γ (.ok none) := .mk fun X Q E q => q
theorem ho_p {i : Int} (h : HF K te Γ (.ok i)) : HSl K (tPart te) Γ (.ok (some i)) := .mk fun X Q E q => h.run X _ E fun _ => ⟨i, rfl, q⟩
theorem ho_m {m : Res Int} (h : HF K te Γ m) : HSl K (tPart te) Γ (m.bind fun i => .ok (some i)) := .mk fun X Q E q => h.run X _ E (wpb q fun i q _ => ⟨i, rfl, q⟩)
theorem cutS_mk (w : Tx) (lo hi : Option Int) : cutS (mkS w) lo hi = mkS (cutL w lo hi) := by
  unfold cutS cutL
  rw [mkS_list, mkS_len]
  rfl
theorem hf_cut_p {w : Tx} {lo hi : Option Int} (h : HF K te Γ (.ok w)) (hl : HSl K tl Γ (.ok lo)) (hh : HSl K th Γ (.ok hi)) : HF K (tSl rSlS te tl th) Γ (.ok (cutL w lo hi)) := .mk fun X Q E q =>
  h.run X _ E fun ow => hl.run X _ E (hh.run X _ E ⟨mkS w, rfl, by rw [mkS_len, ← line_eq]; exact ow, by rw [cutS_mk]; exact q (Nat.le_trans (cutL_len w lo hi) ow)⟩)
theorem hf_cut_m {m : Res Tx} {ml mh : Res (Option Int)} (h : HF K te Γ m) (hl : HSl K tl Γ ml) (hh : HSl K th Γ mh) : HF K (tSl rSlS te tl th) Γ (m.bind fun w => ml.bind fun lo => mh.bind fun hi => .ok (cutL w lo hi)) := .mk fun X Q E q =>
  h.run X _ E (wpb q fun w q ow => hl.run X _ E (wpb q fun lo q => hh.run X _ E (wpb q fun hi q => ⟨mkS w, rfl, by rw [mkS_len, ← line_eq]; exact ow, by rw [cutS_mk]; exact q (Nat.le_trans (cutL_len w lo hi) ow)⟩)))
end
end M
namespace M
open PySem PySem.Spec PyProof.Rows L2

/-! ### control of a mirror -/
inductive Fl (ρ σ : Type) : Type where
  | nx (s : σ) | bk (s : σ) | rt (r : ρ)
inductive Lp (ρ σ : Type) : Type where
  | fin (s : σ) | ret (r : ρ)
def forR {α ρ S : Type} (f : α → S → Res (Fl ρ S)) : List α → S → Res (Lp ρ S)
  | [], s => .ok (.fin s)
  | x :: xs, s => (f x s).bind fun y => match y with
    | .nx s' => forR f xs s'
    | .bk s' => .ok (.fin s')
    | .rt r => .ok (.ret r)
def forS {α S : Type} (f : α → S → Res S) : List α → S → Res S
  | [], s => .ok s
  | x :: xs, s => (f x s).bind fun s' => forS f xs s'
/-- lo, lo + 1, .. below hi -/
def rng (lo hi : Int) : List Int := (List.range (hi - lo).toNat).map fun (i : Nat) => lo + (i : Int)
def RgOk (lo hi : Int) : Prop := -(2 ^ 62) ≤ lo ∧ lo < 2 ^ 62 ∧ -(2 ^ 62) ≤ hi ∧ hi < 2 ^ 62
instance (lo hi : Int) : Decidable (RgOk lo hi) := by unfold RgOk; exact inferInstance
noncomputable def rngR (lo hi : Int) : Res (List Int) := clo (if RgOk lo hi then .ok (rng lo hi) else .bad)
theorem paired_at {α : Type} {f : V → α → Prop} : ∀ {vs : List V} {xs : List α} {i : Nat} {y : V} {x : α}, Paired f vs xs → vs[i]? = some y → xs[i]? = some x → f y x
  | _, _, _, _, _, .nil, h, _ => by simp at h
  | _, _, 0, _, _, .cons r _, h1, h2 => by
    simp at h1 h2
    subst h1 h2
    exact r
  | _, _, i + 1, _, _, .cons _ t, h1, h2 => paired_at (i := i) t (by simpa using h1) (by simpa using h2)
section
variable {K : PySem.W.Frag} {I H I' H' : Hp} {σ σ' ρ : List (Option V)} {Γ Γ' Θ : List Cell} {i j : Nat} {v : V} {c : Cell} {te tl : TE} {tt : TT} {t u : TS} {dn db dc : L2.St → Hp → Prop} {dr : VK} {Q : VK}
variable {ω : Type} {P : ω → Prop} {X : Exn → Prop}
theorem Env.clear (E : Env K I H σ Γ ρ Θ) : Env K I H [] [] ρ Θ := ⟨rfl, E.2.1, EnvL.drop E.2.2⟩

/-! ### expressions onto the stack -/
theorem st_push {α : Type} [Sca α] {x : α} (E : Env K I H σ Γ ρ Θ) (ht : HF K te Γ (.ok x)) (next : Env K I H σ Γ (some (enc x) :: ρ) (.im x :: Θ) → Q (enc x) H) : te σ H Q :=
  ht.run (fun _ => False) Q E fun ok => next (E.pushS ok)
theorem st_pushm {α : Type} [Sca α] {m : Res α} {k : α → Res ω} (E : Env K I H σ Γ ρ Θ) (ht : HF K te Γ m) (h : wp (m.bind k) P X) (next : ∀ x, Env K I H σ Γ (some (enc x) :: ρ) (.im x :: Θ) → wp (k x) P X → Q (enc x) H) : te σ H Q :=
  ht.run X Q E (wpb h fun x q ok => next x (E.pushS ok) q)
theorem st_var {α : Type} [Rep α] {a : α} (E : Env K I H σ Γ ρ Θ) (hΓ : Γ[i]? = some (.im a)) (next : ∀ v, Env K I H σ Γ (some v :: ρ) (.im a :: Θ) → Q v H) : tVar i σ H Q := by
  obtain ⟨v, ho, r⟩ := E.get hΓ
  exact ⟨v, ho, next v (E.push r)⟩
/-! ### statements -/
theorem st_store {Q : L2.St → Hp → Prop} (E : Env K I H σ Γ (some v :: ρ) (c :: Θ)) (hΓ : Γ.set i c = Γ') (hi : i < Γ.length) (next : ∀ σ', Env K I H σ' Γ' ρ Θ → Q σ' H) : gName i v σ H Q := next _ (E.store hi hΓ)
theorem st_set {α : Type} [Sca α] {x : α} (E : Env K I H σ Γ ρ Θ) (ht : HF K te Γ (.ok x)) (hΓ : Γ.set i (.im x) = Γ') (hi : i < Γ.length) (next : ∀ σ', Env K I H σ' Γ' ρ Θ → dn σ' H) : tAsg te (gName i) ⟨dn, dr, db, dc⟩ σ H :=
  st_push E ht fun E => st_store E hΓ hi next
theorem st_setm {α : Type} [Sca α] {m : Res α} {k : α → Res ω} {Γ' : α → List Cell} (E : Env K I H σ Γ ρ Θ) (ht : HF K te Γ m) (h : wp (m.bind k) P X) (hΓ : ∀ x, Γ.set i (.im x) = Γ' x) (hi : i < Γ.length) (next : ∀ x σ', Env K I H σ' (Γ' x) ρ Θ → wp (k x) P X → dn σ' H) : tAsg te (gName i) ⟨dn, dr, db, dc⟩ σ H :=
  st_pushm E ht h fun x E h => st_store E (hΓ x) hi fun σ' E => next x σ' E h
theorem st_ret {α : Type} [Sca α] {x : α} (E : Env K I H σ Γ ρ Θ) (ht : HF K te Γ (.ok x)) (h : ∀ I' H' v, Env K I' H' [] [] (some v :: ρ) (.im x :: Θ) → dr v H') : tRet te ⟨dn, dr, db, dc⟩ σ H :=
  st_push E ht fun E => h _ _ _ E.clear
theorem st_retm {α : Type} [Sca α] {m : Res α} {k : α → Res ω} (E : Env K I H σ Γ ρ Θ) (ht : HF K te Γ m) (h : wp (m.bind k) P X) (next : ∀ x, wp (k x) P X → ∀ I' H' v, Env K I' H' [] [] (some v :: ρ) (.im x :: Θ) → dr v H') : tRet te ⟨dn, dr, db, dc⟩ σ H :=
  st_pushm E ht h fun x E h => next x h _ _ _ E.clear
theorem st_retN (E : Env K I H σ Γ ρ Θ) (h : ∀ I' H' v, Env K I' H' [] [] (some v :: ρ) (.im () :: Θ) → dr v H') : dr .non H := h _ _ _ (E.clear.push ⟨rfl, trivial⟩)
theorem st_if {b : Bool} {m1 m2 : Res ω} (E : Env K I H σ Γ ρ Θ) (ht : HT K tt Γ (.ok b)) (h : wp (if b = true then m1 else m2) P X) (h1 : wp m1 P X → t ⟨dn, dr, db, dc⟩ σ H) (h2 : wp m2 P X → u ⟨dn, dr, db, dc⟩ σ H) : tIfS tt t u ⟨dn, dr, db, dc⟩ σ H :=
  ht.run X _ E (by
    show if b = true then _ else _
    cases b with
    | true => exact h1 h
    | false => exact h2 h)
theorem st_ifm {m : Res Bool} {m1 m2 : Res ω} (E : Env K I H σ Γ ρ Θ) (ht : HT K tt Γ m) (h : wp (m.bind fun b => if b = true then m1 else m2) P X) (h1 : wp m1 P X → t ⟨dn, dr, db, dc⟩ σ H) (h2 : wp m2 P X → u ⟨dn, dr, db, dc⟩ σ H) : tIfS tt t u ⟨dn, dr, db, dc⟩ σ H :=
  ht.run X _ E (wpb h fun b h => by
    show if b = true then _ else _
    cases b with
    | true => exact h1 h
    | false => exact h2 h)
/-- behind an if both ways go on together: s tells the data -/
theorem st_ifj {S : Type} {b : Bool} {m1 m2 : Res S} {k : S → Res ω} (G : S → List Cell) (E : Env K I H σ Γ ρ Θ) (ht : HT K tt Γ (.ok b)) (h : wp ((if b = true then m1 else m2).bind k) P X)
    (h1 : wp m1 (fun s => ∀ I' H' σ', Env K I' H' σ' (G s) ρ Θ → dn σ' H') X → t ⟨dn, dr, db, dc⟩ σ H) (h2 : wp m2 (fun s => ∀ I' H' σ', Env K I' H' σ' (G s) ρ Θ → dn σ' H') X → u ⟨dn, dr, db, dc⟩ σ H)
    (rest : ∀ s I' H' σ', Env K I' H' σ' (G s) ρ Θ → wp (k s) P X → dn σ' H') : tIfS tt t u ⟨dn, dr, db, dc⟩ σ H :=
  ht.run X _ E (by
    show if b = true then _ else _
    cases b with
    | true => exact h1 (wpb h fun s h I' H' σ' E => rest s I' H' σ' E h)
    | false => exact h2 (wpb h fun s h I' H' σ' E => rest s I' H' σ' E h))
theorem st_ifjm {S : Type} {m : Res Bool} {m1 m2 : Res S} {k : S → Res ω} (G : S → List Cell) (E : Env K I H σ Γ ρ Θ) (ht : HT K tt Γ m) (h : wp (m.bind fun b => (if b = true then m1 else m2).bind k) P X)
    (h1 : wp m1 (fun s => ∀ I' H' σ', Env K I' H' σ' (G s) ρ Θ → dn σ' H') X → t ⟨dn, dr, db, dc⟩ σ H) (h2 : wp m2 (fun s => ∀ I' H' σ', Env K I' H' σ' (G s) ρ Θ → dn σ' H') X → u ⟨dn, dr, db, dc⟩ σ H)
    (rest : ∀ s I' H' σ', Env K I' H' σ' (G s) ρ Θ → wp (k s) P X → dn σ' H') : tIfS tt t u ⟨dn, dr, db, dc⟩ σ H :=
  ht.run X _ E (wpb h fun b h => by
    show if b = true then _ else _
    cases b with
    | true => exact h1 (wpb h fun s h I' H' σ' E => rest s I' H' σ' E h)
    | false => exact h2 (wpb h fun s h I' H' σ' E => rest s I' H' σ' E h))
/-- the same where the test's value is at hand -/
theorem st_itej {S : Type} {b : Bool} {m1 m2 : Res S} {k : S → Res ω} (E : Env K I H σ Γ ρ Θ) (G : S → List Cell) (h : wp ((if b = true then m1 else m2).bind k) P X)
    (h1 : wp m1 (fun s => ∀ I' H' σ', Env K I' H' σ' (G s) ρ Θ → dn σ' H') X → t ⟨dn, dr, db, dc⟩ σ H) (h2 : wp m2 (fun s => ∀ I' H' σ', Env K I' H' σ' (G s) ρ Θ → dn σ' H') X → u ⟨dn, dr, db, dc⟩ σ H)
    (rest : ∀ s I' H' σ', Env K I' H' σ' (G s) ρ Θ → wp (k s) P X → dn σ' H') : if b = true then t ⟨dn, dr, db, dc⟩ σ H else u ⟨dn, dr, db, dc⟩ σ H := by
  cases b with
  | true => exact h1 (wpb h fun s h I' H' σ' E => rest s I' H' σ' E h)
  | false => exact h2 (wpb h fun s h I' H' σ' E => rest s I' H' σ' E h)
/-! ### loops -/
/-- what a turn's end means -/
def TurnP {ρτ S : Type} (K : PySem.W.Frag) (G : S → List Cell) (ρ : List (Option V)) (Θ : List Cell) (N B : L2.St → Hp → Prop) (R : ρτ → Prop) : Fl ρτ S → Prop
  | .nx s => ∀ I' H' σ', Env K I' H' σ' (G s) ρ Θ → N σ' H'
  | .bk s => ∀ I' H' σ', Env K I' H' σ' (G s) ρ Θ → B σ' H'
  | .rt r => R r
theorem forR_at {α ρτ S : Type} {f : α → S → Res (Fl ρτ S)} {xs : List α} {s : S} {i : Nat} {x : α} (hx : xs[i]? = some x) : forR f (xs.drop i) s = (f x s).bind fun y => match y with
    | .nx s' => forR f (xs.drop (i + 1)) s'
    | .bk s' => .ok (.fin s')
    | .rt r => .ok (.ret r) := by
  obtain ⟨hi, e⟩ := List.getElem?_eq_some_iff.mp hx
  rw [List.drop_eq_getElem_cons hi, e]
  rfl
/-- the walk J yields xs, as long as the entries ρe, Θe are on the stack -/
structure Feeds (K : PySem.W.Frag) (J : It) {α : Type} [Rep α] (xs : List α) (ρe : List (Option V)) (Θe : List Cell) : Prop where
  len : ρe.length = Θe.length
  go : ∀ {I H : Hp} {σ ρ : List (Option V)} {Γ Θ : List Cell} (i : Nat), Env K I H σ Γ (ρe ++ ρ) (Θe ++ Θ) → i < xs.length → J.go i H
  yld : ∀ {I H : Hp} {σ ρ : List (Option V)} {Γ Θ : List Cell} (i : Nat) (x : V) (H' : Hp) (a : α), Env K I H σ Γ (ρe ++ ρ) (Θe ++ Θ) → xs[i]? = some a → J.yld i H x H' → ∃ I', Grow I H I' H' ∧ Rep.rp K I' x a
  stop : ∀ {I H : Hp} {σ ρ : List (Option V)} {Γ Θ : List Cell} (i : Nat), Env K I H σ Γ (ρe ++ ρ) (Θe ++ Θ) → xs.length ≤ i → J.stop i H
theorem Env.drops : ∀ {ρe : List (Option V)} {Θe : List Cell}, ρe.length = Θe.length → Env K I H σ Γ (ρe ++ ρ) (Θe ++ Θ) → Env K I H σ Γ ρ Θ
  | [], [], _, E => E
  | _ :: _, [], h, _ => by simp at h
  | [], _ :: _, h, _ => by simp at h
  | o :: ρe, c :: Θe, h, E => Env.drops (ρe := ρe) (Θe := Θe) (by simpa using h) (Env.pop E)
/-- a for, its iterator at hand; s: the data that the turns change -/
theorem st_for {α ρτ S : Type} [Rep α] {xs : List α} {J : It} {ρe : List (Option V)} {Θe : List Cell} {g : TG} {tb : TS} {f : α → S → Res (Fl ρτ S)} {k : Lp ρτ S → Res ω} {s0 : S} (hJ : Feeds K J xs ρe Θe) (R : ρτ → Prop) (G : S → List Cell)
    (E : Env K I H σ Γ (ρe ++ ρ) (Θe ++ Θ)) (w : Wk Γ (G s0)) (h : wp ((forR f xs s0).bind k) P X) (ret : ∀ r, wp (k (.ret r)) P X → R r)
    (turn : ∀ x s I' H' σ' y (N B : L2.St → Hp → Prop), Env K I' H' σ' (G s) (some y :: (ρe ++ ρ)) (.im x :: (Θe ++ Θ)) → wp (f x s) (TurnP K G (ρe ++ ρ) (Θe ++ Θ) N B R) X → g y σ' H' fun σ2 H2 => tb ⟨N, dr, B, N⟩ σ2 H2) 
    (rest : ∀ s I' H' σ', Env K I' H' σ' (G s) ρ Θ → wp (k (.fin s)) P X → dn σ' H') :
    ∃ W : Nat → Nat → L2.St → Hp → Prop, (∃ m, W 0 m σ H) ∧ ∀ i m σ H, W i m σ H →
      (J.stop i H ∧ dn σ H) ∨ (J.go i H ∧ ∃ N : L2.St → Hp → Prop, (∀ σ' H', N σ' H' → ∃ m', m' < m ∧ W (i + 1) m' σ' H') ∧ ∀ x H', J.yld i H x H' → g x σ H' fun σ2 H2 => tb ⟨N, dr, dn, N⟩ σ2 H2) := by
  refine ⟨fun i m σ' H' => m = xs.length - i ∧ i ≤ xs.length ∧ ∃ s I', Env K I' H' σ' (G s) (ρe ++ ρ) (Θe ++ Θ) ∧ wp ((forR f (xs.drop i) s).bind k) P X, ⟨xs.length, by simp, Nat.zero_le _, s0, I, E.weak w, h⟩, ?_⟩
  rintro i m σ' H' ⟨rfl, hi, s, I', E', h'⟩
  by_cases hlt : i < xs.length
  · have hx : xs[i]? = some xs[i] := List.getElem?_eq_getElem hlt
    rw [forR_at hx, Res.bind_assoc] at h'
    refine .inr ⟨hJ.go i E' hlt, fun σ2 H2 => ∃ s I', Env K I' H2 σ2 (G s) (ρe ++ ρ) (Θe ++ Θ) ∧ wp ((forR f (xs.drop (i + 1)) s).bind k) P X, fun σ2 H2 z => ⟨xs.length - (i + 1), by omega, rfl, hlt, z⟩, fun y H2 hyl => ?_⟩
    obtain ⟨I2, g2, ry⟩ := hJ.yld i y H2 _ E' hx hyl
    refine turn _ s I2 H2 σ' y _ _ ((E'.grow g2).push ry) (wpb h' fun z q => ?_)
    cases z with
    | nx s' => exact fun I2 H2 σ2 E2 => ⟨s', I2, E2, q⟩
    | bk s' => exact fun I2 H2 σ2 E2 => rest s' I2 H2 σ2 (E2.drops hJ.len) q
    | rt r => exact ret r q
  · have e : i = xs.length := by omega
    subst e
    rw [List.drop_eq_nil_of_le (Nat.le_refl _)] at h'
    exact .inl ⟨hJ.stop _ E' (Nat.le_refl _), rest s I' H' σ' (E'.drops hJ.len) h'⟩
theorem forS_at {α S : Type} {f : α → S → Res S} {xs : List α} {s : S} {i : Nat} {x : α} (hx : xs[i]? = some x) : forS f (xs.drop i) s = (f x s).bind fun s' => forS f (xs.drop (i + 1)) s' := by
  obtain ⟨hi, e⟩ := List.getElem?_eq_some_iff.mp hx
  rw [List.drop_eq_getElem_cons hi, e]
  rfl
/-- a for that is never left early -/
theorem st_forS {α S : Type} [Rep α] {xs : List α} {J : It} {ρe : List (Option V)} {Θe : List Cell} {g : TG} {tb : TS} {f : α → S → Res S} {k : S → Res ω} {s0 : S} (hJ : Feeds K J xs ρe Θe) (G : S → List Cell)
    (E : Env K I H σ Γ (ρe ++ ρ) (Θe ++ Θ)) (w : Wk Γ (G s0)) (h : wp ((forS f xs s0).bind k) P X)
    (turn : ∀ x s I' H' σ' y (N B : L2.St → Hp → Prop), Env K I' H' σ' (G s) (some y :: (ρe ++ ρ)) (.im x :: (Θe ++ Θ)) → wp (f x s) (fun s => ∀ I' H' σ', Env K I' H' σ' (G s) (ρe ++ ρ) (Θe ++ Θ) → N σ' H') X → g y σ' H' fun σ2 H2 => tb ⟨N, dr, B, N⟩ σ2 H2) 
    (rest : ∀ s I' H' σ', Env K I' H' σ' (G s) ρ Θ → wp (k s) P X → dn σ' H') :
    ∃ W : Nat → Nat → L2.St → Hp → Prop, (∃ m, W 0 m σ H) ∧ ∀ i m σ H, W i m σ H →
      (J.stop i H ∧ dn σ H) ∨ (J.go i H ∧ ∃ N : L2.St → Hp → Prop, (∀ σ' H', N σ' H' → ∃ m', m' < m ∧ W (i + 1) m' σ' H') ∧ ∀ x H', J.yld i H x H' → g x σ H' fun σ2 H2 => tb ⟨N, dr, dn, N⟩ σ2 H2) := by
  refine ⟨fun i m σ' H' => m = xs.length - i ∧ i ≤ xs.length ∧ ∃ s I', Env K I' H' σ' (G s) (ρe ++ ρ) (Θe ++ Θ) ∧ wp ((forS f (xs.drop i) s).bind k) P X, ⟨xs.length, by simp, Nat.zero_le _, s0, I, E.weak w, h⟩, ?_⟩
  rintro i m σ' H' ⟨rfl, hi, s, I', E', h'⟩
  by_cases hlt : i < xs.length
  · have hx : xs[i]? = some xs[i] := List.getElem?_eq_getElem hlt
    rw [forS_at hx, Res.bind_assoc] at h'
    refine .inr ⟨hJ.go i E' hlt, fun σ2 H2 => ∃ s I', Env K I' H2 σ2 (G s) (ρe ++ ρ) (Θe ++ Θ) ∧ wp ((forS f (xs.drop (i + 1)) s).bind k) P X, fun σ2 H2 z => ⟨xs.length - (i + 1), by omega, rfl, hlt, z⟩, fun y H2 hyl => ?_⟩
    obtain ⟨I2, g2, ry⟩ := hJ.yld i y H2 _ E' hx hyl
    exact turn _ s I2 H2 σ' y _ _ ((E'.grow g2).push ry) (wpb h' fun s' q I3 H3 σ3 E3 => ⟨s', I3, E3, q⟩)
  · have e : i = xs.length := by omega
    subst e
    rw [List.drop_eq_nil_of_le (Nat.le_refl _)] at h'
    exact .inl ⟨hJ.stop _ E' (Nat.le_refl _), rest s I' H' σ' (E'.drops hJ.len) h'⟩
/-! ### what is walked -/
theorem it_rng0 {R : It → Hp → Prop} {lo : Int} {n : Nat} (next : ∀ J, Feeds K J ((List.range n).map fun (i : Nat) => lo + (i : Int)) [] [] → R J H) : R (Itr lo n) H := by
  refine next _ ⟨rfl, fun i _ hi => (show i < n by simpa using hi), fun {I H} {_ _} {_ _} i x H' a E hx hy => ?_, fun i _ hi => (show n ≤ i by simpa using hi)⟩
  obtain ⟨rfl, rfl⟩ := hy
  refine ⟨I, Grow.refl E.same, ?_⟩
  have hi : i < n := by
    have := (List.getElem?_eq_some_iff.mp hx).1
    simpa using this
  have e : lo + (i : Int) = a := by
    rw [List.getElem?_map, List.getElem?_range hi] at hx
    exact Option.some.inj hx
  exact ⟨by rw [e]; rfl, trivial⟩
theorem it_rng2 {R : It → Hp → Prop} {t1 t2 : TE} {a b : Int} {k : List Int → Res ω} (E : Env K I H σ Γ ρ Θ) (h1 : HF K t1 Γ (.ok a)) (h2 : HF K t2 Γ (.ok b)) (h : wp ((rngR a b).bind k) P X)
    (next : ∀ xs, wp (k xs) P X → ∀ J, Feeds K J xs [] [] → R J H) : iRng2 (tCons t1 (tCons t2 tNil)) σ H R := h1.run X _ E fun _ => h2.run X _ E fun _ => by
  unfold rngR at h
  rw [clo_eq] at h
  by_cases hr : RgOk a b
  · rw [if_pos hr] at h
    exact ⟨a, b, rfl, hr, it_rng0 (next _ h)⟩
  · rw [if_neg hr] at h
    exact h.elim
theorem it_rng2m {R : It → Hp → Prop} {t1 t2 : TE} {m1 m2 : Res Int} {k : List Int → Res ω} (E : Env K I H σ Γ ρ Θ) (h1 : HF K t1 Γ m1) (h2 : HF K t2 Γ m2) (h : wp (m1.bind fun a => m2.bind fun b => (rngR a b).bind k) P X)
    (next : ∀ xs, wp (k xs) P X → ∀ J, Feeds K J xs [] [] → R J H) : iRng2 (tCons t1 (tCons t2 tNil)) σ H R := h1.run X _ E (wpb h fun a h _ => h2.run X _ E (wpb h fun b h _ => by
  unfold rngR at h
  rw [clo_eq] at h
  by_cases hr : RgOk a b
  · rw [if_pos hr] at h
    exact ⟨a, b, rfl, hr, it_rng0 (next _ h)⟩
  · rw [if_neg hr] at h
    exact h.elim))
theorem it_rng1m {R : It → Hp → Prop} {t1 : TE} {m1 : Res Int} {k : List Int → Res ω} (E : Env K I H σ Γ ρ Θ) (h1 : HF K t1 Γ m1) (h : wp (m1.bind fun b => (rngR 0 b).bind k) P X)
    (next : ∀ xs, wp (k xs) P X → ∀ J, Feeds K J xs [] [] → R J H) : iRng1 (tCons t1 tNil) σ H R := h1.run X _ E (wpb h fun b h _ => by
  unfold rngR at h
  rw [clo_eq] at h
  by_cases hr : RgOk 0 b
  · rw [if_pos hr] at h
    have e : (b - 0).toNat = b.toNat := by omega
    unfold rng at h
    rw [e] at h
    exact ⟨b, rfl, hr.2.2.1, hr.2.2.2, it_rng0 (next _ h)⟩
  · rw [if_neg hr] at h
    exact h.elim)
theorem it_rng1 {R : It → Hp → Prop} {t1 : TE} {b : Int} {k : List Int → Res ω} (E : Env K I H σ Γ ρ Θ) (h1 : HF K t1 Γ (.ok b)) (h : wp ((rngR 0 b).bind k) P X)
    (next : ∀ xs, wp (k xs) P X → ∀ J, Feeds K J xs [] [] → R J H) : iRng1 (tCons t1 tNil) σ H R := it_rng1m (m1 := .ok b) E h1 h next
/-- on the stack: the two ends of a range (a call told them) -/
theorem it_list {α : Type} [Rep α] {R : Addr → Prop} {xs : List α} (E : Env K I H σ Γ (some v :: ρ) (.im xs :: Θ)) (next : ∀ a, Feeds K (Itl K a) xs [some v] [.im xs] → R a) :
    ∃ a, v = .ref a ∧ (∃ xs, SqL K H a xs) ∧ R a := by
  obtain ⟨a, vs, e, hq, pr⟩ := E.topR
  subst e
  refine ⟨a, rfl, ⟨vs, SqL.of (E.same _ _ hq)⟩, next _ ⟨rfl, fun {_ _} {_ _} {_ _} i E' hi => ?_, fun {I H} {_ _} {_ _} i x H' b E' hx hy => ?_, fun {_ _} {_ _} {_ _} i E' hi => ?_⟩⟩
  · obtain ⟨a', vs', e', hq', pr'⟩ := E'.topR
    cases e'
    have hl : vs'.length = xs.length := Paired.length pr'
    exact ⟨vs', vs'[i]'(by omega), SqL.of (E'.same _ _ hq'), List.getElem?_eq_getElem (by omega)⟩
  · obtain ⟨a', vs', e', hq', pr'⟩ := E'.topR
    cases e'
    obtain ⟨rfl, hy⟩ := hy
    have hl : vs'.length = xs.length := Paired.length pr'
    exact ⟨I, Grow.refl E'.same, paired_at pr' (hy _ (SqL.of (E'.same _ _ hq'))) hx⟩
  · obtain ⟨a', vs', e', hq', pr'⟩ := E'.topR
    cases e'
    have hl : vs'.length = xs.length := Paired.length pr'
    exact ⟨vs', SqL.of (E'.same _ _ hq'), by omega⟩
theorem it_tup {α : Type} [Rep α] {R : Addr → Prop} {xs : TupL α} (E : Env K I H σ Γ (some v :: ρ) (.im xs :: Θ)) (next : ∀ a, Feeds K (Itt K a) xs.l [some v] [.im xs] → R a) :
    ∃ a, v = .ref a ∧ (∃ xs, SqT K H a xs) ∧ R a := by
  obtain ⟨a, vs, e, hq, pr⟩ := E.topR
  subst e
  refine ⟨a, rfl, ⟨vs, same_seqT E.same hq⟩, next _ ⟨rfl, fun {_ _} {_ _} {_ _} i E' hi => ?_, fun {I H} {_ _} {_ _} i x H' b E' hx hy => ?_, fun {_ _} {_ _} {_ _} i E' hi => ?_⟩⟩
  · obtain ⟨a', vs', e', hq', pr'⟩ := E'.topR
    cases e'
    have hl : vs'.length = xs.l.length := Paired.length pr'
    exact ⟨vs', vs'[i]'(by omega), same_seqT E'.same hq', List.getElem?_eq_getElem (by omega)⟩
  · obtain ⟨a', vs', e', hq', pr'⟩ := E'.topR
    cases e'
    obtain ⟨rfl, hy⟩ := hy
    have hl : vs'.length = xs.l.length := Paired.length pr'
    exact ⟨I, Grow.refl E'.same, paired_at pr' (hy _ (same_seqT E'.same hq')) hx⟩
  · obtain ⟨a', vs', e', hq', pr'⟩ := E'.topR
    cases e'
    have hl : vs'.length = xs.l.length := Paired.length pr'
    exact ⟨vs', same_seqT E'.same hq', by omega⟩
end
/-- a text's signs -/
def chars (w : Tx) : List Tx := w.map fun c => [c]
section
variable {K : PySem.W.Frag} {I H : Hp} {σ ρ : List (Option V)} {Γ Θ : List Cell} {te : TE}
theorem it_str {R : It → Hp → Prop} {w : Tx} (E : Env K I H σ Γ ρ Θ) (ht : HF K te Γ (.ok w)) (next : ∀ J, Feeds K J (chars w) [] [] → R J H) : iStr te σ H R := ht.run (fun _ => False) _ E fun ok => by
  have sz : (mkS w).cps.size = w.length := mkS_len w
  have cl : (chars w).length = w.length := by unfold chars; simp
  refine ⟨mkS w, rfl, next _ ⟨rfl, fun i _ hi => ?_, fun {I H} {_ _} {_ _} i x H' a E' hx hy => ?_, fun i _ hi => ?_⟩⟩
  · show i < (mkS w).cps.size
    omega
  · obtain ⟨rfl, c, hc, rfl⟩ := hy
    refine ⟨I, Grow.refl E'.same, ?_⟩
    have e1 : (mkS w).cps.toList[i]? = some c := by rw [Array.getElem?_toList]; exact hc
    rw [mkS_list] at e1
    have e2 : a = [c] := by
      unfold chars at hx
      rw [List.getElem?_map, e1] at hx
      exact (Option.some.inj hx).symm
    subst e2
    exact ⟨rfl, one_ok c⟩
  · show (mkS w).cps.size ≤ i
    omega
end
theorem forR_nil {α ρ S : Type} {f : α → S → Res (Fl ρ S)} {s : S} : forR f [] s = .ok (.fin s) := rfl
theorem forR_cons {α ρ S : Type} {f : α → S → Res (Fl ρ S)} {s : S} {x : α} {xs : List α} : forR f (x :: xs) s = (f x s).bind fun y => match y with
    | .nx s' => forR f xs s'
    | .bk s' => .ok (.fin s')
    | .rt r => .ok (.ret r) := rfl
theorem forS_nil {α S : Type} {f : α → S → Res S} {s : S} : forS f [] s = .ok s := rfl
theorem forS_cons {α S : Type} {f : α → S → Res S} {s : S} {x : α} {xs : List α} : forS f (x :: xs) s = (f x s).bind fun s' => forS f xs s' := rfl
end M
namespace M
open PySem PySem.Spec PyProof.Rows L2

/-- what an exception bears -/
structure XD where
  fs : List (Str × V)
/-- its fields: none, or in a dict of its own -/
def XDr (I : Hp) (v : V) (fs : List (Str × V)) : Prop := (fs = [] ∧ v = .non) ∨ ∃ d, v = .ref d ∧ I d = some (.xd fs)
theorem XDr.mono {I J : Hp} {v : V} {fs : List (Str × V)} (e : Same I J) (h : XDr I v fs) : XDr J v fs := h.imp id fun ⟨d, e1, h⟩ => ⟨d, e1, e _ _ h⟩
instance repXD : Rep XD where
  rp K I v x := XDr I v x.fs
  mono := fun e h => h.mono e
/-- where the dict is -/
def dOf : V → Option Addr
  | .ref d => some d
  | _ => none
/-! ### promises by mirrors -/
def SpM (K : PySem.W.Frag) (mg : Str → Option Value) {A B : Type} (n : Nat) (cells : A → List Cell) (m : A → Res B) (oc : B → Cell) : Sp := fun vs H Q E =>
  vs.length = n ∧ ∃ (a : A) (I : Hp) (ρ : List (Option V)) (Θ : List Cell), Env K I H (vs.map some) (cells a) ρ Θ ∧
    wp (m a) (fun b => ∀ I' H' v, Env K I' H' [] [] (some v :: ρ) (oc b :: Θ) → Q v H')
      (fun e => ∀ I' H' cls d, mg e.cls = some cls → Env K I' H' [] [] (some d :: ρ) (.im (XD.mk e.fs) :: Θ) → E cls (dOf d) H')
/-- one owned parameter, the first; its data behind the call is told too -/
def SpO (K : PySem.W.Frag) (mg : Str → Option Value) {S A B : Type} [Own S] (n : Nat) (cells : A → List Cell) (m : S → A → Res (B × S)) (oc : B → Cell) : Sp := fun vs H Q E =>
  vs.length = n + 1 ∧ ∃ (s : S) (a : A) (I : Hp) (ρ : List (Option V)) (Θ : List Cell), Env K I H (vs.map some) (.own s vs.head? :: cells a) ρ Θ ∧
    wp (m s a) (fun b => ∀ I' H' v, Env K I' H' [vs.head?] [.own b.2 vs.head?] (some v :: ρ) (oc b.1 :: Θ) → Q v H')
      (fun e => ∀ I' H' cls d, mg e.cls = some cls → Env K I' H' [] [] (some d :: ρ) (.im (XD.mk e.fs) :: Θ) → E cls (dOf d) H')
section
variable {K : PySem.W.Frag} {mg : Str → Option Value} {I H I' H' : Hp} {σ σ' ρ : List (Option V)} {Γ Γ' Θ : List Cell} {i j n : Nat} {v : V} {c : Cell} {te tl : TE} {tt : TT} {t u : TS} {dn db dc : L2.St → Hp → Prop} {dr : VK} {Q : VK} {W : WX}
variable {ω : Type} {P : ω → Prop} {X : Exn → Prop}
/-- the wish about exceptions at slots σ over the frame ρ, Θ -/
def XWish (K : PySem.W.Frag) (mg : Str → Option Value) (W : WX) (σ : List (Option V)) (Γ : List Cell) (ρ : List (Option V)) (Θ : List Cell) (e : Exn) : Prop :=
  ∀ I' H' cls d, mg e.cls = some cls → Env K I' H' σ Γ (some d :: ρ) (.im (XD.mk e.fs) :: Θ) → W cls (dOf d) σ H'
theorem st_call {A B : Type} {cells : A → List Cell} {m : A → Res B} {oc : B → Cell} {vs : List V} (a : A) {k : B → Res ω} (E : Env K I H σ Γ ((vs.map some).reverse ++ ρ) ((cells a).reverse ++ Θ)) (hn : vs.length = n) (hc : (cells a).length = n)
    (h : wp ((m a).bind k) P X) (hX : ∀ e, X e → XWish K mg W σ Γ ρ Θ e)
    (next : ∀ b I' H' v, Env K I' H' σ Γ (some v :: ρ) (oc b :: Θ) → wp (k b) P X → Q v H') : SpM K mg n cells m oc vs H Q (WE W σ) := by
  refine ⟨hn, a, I, σ ++ ρ, Γ ++ Θ, E.enter (by rw [List.length_map, hn, hc]), ?_⟩
  refine wp_mono (wp_bind.mp h) (fun b q I' H' v E' => next b I' H' v (E'.leave E.1) q) fun e x I' H' cls d hm E' => hX e x I' H' cls d hm (E'.leave E.1)
theorem Env.swap {o1 o2 : Option V} {c1 c2 : Cell} (E : Env K I H σ Γ (o1 :: o2 :: ρ) (c1 :: c2 :: Θ)) : Env K I H σ Γ (o2 :: o1 :: ρ) (c2 :: c1 :: Θ) :=
  ⟨E.1, by have := E.2.1; simpa using this, E.2.2.perm ((List.Perm.swap _ _ _).append_left _)⟩
/-- the body's start -/
theorem st_start {N : List Str} {vs : List V} {k : Nat} (E : Env K I H (vs.map some) Γ ρ Θ) (hk : N.length - vs.length = k) : Env K I H (start N vs) (Γ ++ List.replicate k .any) ρ Θ := by
  subst hk
  exact E.locals
/-! ### own exceptions with one field -/
def spIni (C : Addr) (f : Str) : Sp := fun vs H Q _ => ∃ a y, vs = [.ref a, y] ∧ H a = some (exo a C none) ∧ ∀ dx, H dx = none → dx ≠ a → Q .non (upd (upd H dx (exd dx [(f, y)])) a (exo a C (some dx)))
theorem st_raise {α : Type} [Sca α] {C : Addr} {x : Str} {f : Str} {a : α} (E : Env K I H σ Γ ρ Θ) (ht : HF K te Γ (.ok a)) (hC : mg x = some (.ref C)) (h : XWish K mg W σ Γ ρ Θ ⟨x, [(f, enc a)]⟩) :
    tMkO C (spIni C f) [] (tCons te tNil) σ H fun cls d H' => W cls d σ H' :=
  ht.run (fun _ => False) _ E fun ok => by
    refine ⟨by simp, fun p hp => ⟨p, enc a, rfl, upd_same, fun dx hdx ne => ⟨rfl, dx, [(f, enc a)], upd_same, ?_, ?_, ?_⟩⟩⟩
    · rw [upd_ne ne, upd_same]
    · rw [upd_ne ne] at hdx
      exact hdx
    · rw [upd_ne ne] at hdx
      have e : upd (del (upd (upd (upd H p (exo p C none)) dx (exd dx [(f, enc a)])) p (exo p C (some dx))) p) dx (.xd [(f, enc a)]) = upd H dx (.xd [(f, enc a)]) := by
        funext b
        by_cases hb : b = dx
        · rw [hb, upd_same, upd_same]
        · rw [upd_ne hb, upd_ne hb]
          by_cases hp' : b = p
          · rw [hp', del_same, hp]
          · rw [del_ne hp', upd_ne hp', upd_ne hb, upd_ne hp']
      rw [e]
      exact h _ _ (.ref C) (.ref dx) hC ((E.grow (Grow.newI (u := .xd [(f, enc a)]) E.same hdx)).push (.inr ⟨dx, rfl, upd_same⟩))
/-- an own exception without fields -/
theorem st_raise0 {C : Addr} {x : Str} (E : Env K I H σ Γ ρ Θ) (hC : mg x = some (.ref C)) (h : XWish K mg W σ Γ ρ Θ ⟨x, []⟩) : W (.ref C) none σ H := h I H (.ref C) .non hC (E.push (a := XD.mk []) (.inl ⟨rfl, rfl⟩))
/-- what the top says of such a class -/
structure ExcTxt (P : Program) (w : World) (K : PySem.W.Frag) (mg : Str → Option Value) (base : Heap) (x f : Str) (C fI : Addr) (fd : FuncData) : Prop where
  gC : mg x = some (.ref C)
  T : OexC K C
  iC : PySem.W.findIn K (.ref C) "__init__" = some (some (.ref fI))
  tI : PySem.W.typeIn K (.ref fI) = some (.type "function")
  ini : FnOk P w K mg base (L2.CX P w) 1 fI fd ["self", f] (spIni C f)
  bI : Binds K fd ["self", f] []
end
end M
namespace M
open PySem PySem.Spec PyProof.Rows L2
section
variable {K : PySem.W.Frag} {mg : Str → Option Value} {I H I' H' : Hp} {σ σ' ρ : List (Option V)} {Γ Γ' Θ : List Cell} {i j n : Nat} {v v1 v2 : V} {c c1 c2 : Cell} {te tl : TE} {tt : TT} {t u : TS} {dn db dc : L2.St → Hp → Prop} {dr : VK} {Q : VK} {W : WX}
variable {ω : Type} {P : ω → Prop} {X : Exn → Prop} {α β γ : Type}
/-! ### operators on the stack -/
theorem Env.topS [Sca α] {a : α} (E : Env K I H σ Γ (some v :: ρ) (.im a :: Θ)) : v = enc a ∧ okv a := E.topR
theorem st_op2 [Sca α] [Sca β] [Sca γ] {r : R2} {x : α} {y : β} {m : Res γ} {k : γ → Res ω} (E : Env K I H σ Γ (some v2 :: some v1 :: ρ) (.im y :: .im x :: Θ)) (hr : HR r x y m) (h : wp (m.bind k) P X)
    (next : ∀ z v, Env K I H σ Γ (some v :: ρ) (.im z :: Θ) → wp (k z) P X → Q v H) : OpG r v1 v2 H Q := by
  obtain ⟨e2, o2⟩ := E.topS
  obtain ⟨e1, o1⟩ := E.pop.topS
  subst e1 e2
  exact hr.run X Q o1 o2 (wpb h fun z q ok => next z _ (E.pop.pop.pushS ok) q)
theorem st_op2p [Sca α] [Sca β] [Sca γ] {r : R2} {x : α} {y : β} {z : γ} (E : Env K I H σ Γ (some v2 :: some v1 :: ρ) (.im y :: .im x :: Θ)) (hr : HR r x y (.ok z))
    (next : ∀ v, Env K I H σ Γ (some v :: ρ) (.im z :: Θ) → Q v H) : OpG r v1 v2 H Q := by
  obtain ⟨e2, o2⟩ := E.topS
  obtain ⟨e1, o1⟩ := E.pop.topS
  subst e1 e2
  exact hr.run (fun _ => False) Q o1 o2 fun ok => next _ (E.pop.pop.pushS ok)
theorem st_un [Sca α] [Sca γ] {r : V → Hp → VK → Prop} {x : α} {m : Res γ} {k : γ → Res ω} (E : Env K I H σ Γ (some v1 :: ρ) (.im x :: Θ)) (hr : HU r x m) (h : wp (m.bind k) P X)
    (next : ∀ z v, Env K I H σ Γ (some v :: ρ) (.im z :: Θ) → wp (k z) P X → Q v H) : UnG r v1 H Q := by
  obtain ⟨e1, o1⟩ := E.topS
  subst e1
  exact hr.run X Q o1 (wpb h fun z q ok => next z _ (E.pop.pushS ok) q)
theorem st_c1 [Sca α] [Sca γ] {r : List V → Hp → VK → Prop} {x : α} {m : Res γ} {k : γ → Res ω} (E : Env K I H σ Γ (some v1 :: ρ) (.im x :: Θ)) (hr : HC1 r x m) (h : wp (m.bind k) P X)
    (next : ∀ z v, Env K I H σ Γ (some v :: ρ) (.im z :: Θ) → wp (k z) P X → Q v H) : CbG r [v1] H Q := by
  obtain ⟨e1, o1⟩ := E.topS
  subst e1
  exact hr.run X Q o1 (wpb h fun z q ok => next z _ (E.pop.pushS ok) q)
theorem st_c2 [Sca α] [Sca β] [Sca γ] {r : List V → Hp → VK → Prop} {x : α} {y : β} {m : Res γ} {k : γ → Res ω} (E : Env K I H σ Γ (some v2 :: some v1 :: ρ) (.im y :: .im x :: Θ)) (hr : HC2 r x y m) (h : wp (m.bind k) P X)
    (next : ∀ z v, Env K I H σ Γ (some v :: ρ) (.im z :: Θ) → wp (k z) P X → Q v H) : CbG r [v1, v2] H Q := by
  obtain ⟨e2, o2⟩ := E.topS
  obtain ⟨e1, o1⟩ := E.pop.topS
  subst e1 e2
  exact hr.run X Q o1 o2 (wpb h fun z q ok => next z _ (E.pop.pop.pushS ok) q)
/-- a truth value on the stack, tested -/
theorem st_tb {b : Bool} {Q : Bool → Hp → Prop} (E : Env K I H σ Γ (some v :: ρ) (.im b :: Θ)) (next : Env K I H σ Γ ρ Θ → Q b H) : ∃ k, v = .bl k ∧ Q k H := by
  obtain ⟨e, _⟩ := E.topS
  exact ⟨b, e, next E.pop⟩
theorem st_ite {b : Bool} {m1 m2 : Res ω} {A B : Prop} (h : wp (if b = true then m1 else m2) P X) (h1 : wp m1 P X → A) (h2 : wp m2 P X → B) : if b = true then A else B := by
  cases b with
  | true => exact h1 h
  | false => exact h2 h
/-- a test whose ways meet -/
theorem st_tj {S : Type} {m : Res (Bool × S)} {k : Bool × S → Res ω} {Q : Bool → Hp → Prop} (E : Env K I H σ Γ ρ Θ) (G : S → List Cell) (h : wp (m.bind k) P X)
    (first : wp m (fun b => ∀ I' H', Env K I' H' σ (G b.2) ρ Θ → Q b.1 H') X → tt σ H Q)
    (rest : ∀ b s I' H', Env K I' H' σ (G s) ρ Θ → wp (k (b, s)) P X → Q b H') : tt σ H Q :=
  first (wpb h fun b q I' H' E => rest b.1 b.2 I' H' E q)
theorem Env.nip {o1 o2 : Option V} (E : Env K I H σ Γ (o1 :: o2 :: ρ) (c1 :: c2 :: Θ)) : Env K I H σ Γ (o1 :: ρ) (c1 :: Θ) := E.swap.pop
/-- a call's value is returned -/
theorem st_retv (E : Env K I H σ Γ (some v :: ρ) (c :: Θ)) (h : ∀ I' H' v, Env K I' H' [] [] (some v :: ρ) (c :: Θ) → dr v H') : dr v H := h _ _ _ E.clear
/-- what a return is to bring -/
def RetP {B : Type} (K : PySem.W.Frag) (ρ : List (Option V)) (Θ : List Cell) (oc : B → Cell) (Q : VK) : B → Prop := fun r => ∀ I' H' v, Env K I' H' [] [] (some v :: ρ) (oc r :: Θ) → Q v H'
def RetO {B S : Type} [Own S] (K : PySem.W.Frag) (ρ : List (Option V)) (Θ : List Cell) (oc : B → Cell) (v0 : V) (Q : VK) : B × S → Prop := fun r => ∀ I' H' v, Env K I' H' [some v0] [.own r.2 (some v0)] (some v :: ρ) (oc r.1 :: Θ) → Q v H'
theorem Env.only {o0 : Option V} {c0 : Cell} : Env K I H σ (c0 :: Γ) ρ Θ → ∃ o0, σ.head? = some o0 ∧ Env K I H [o0] [c0] ρ Θ := fun E => by
  cases σ with
  | nil => have := E.1; simp at this
  | cons o σ =>
    refine ⟨o, rfl, rfl, E.2.1, ?_⟩
    have q : EnvL K I H ((o, c0) :: (σ.zip Γ ++ ρ.zip Θ)) := E.2.2
    have q2 : EnvL K I H (σ.zip Γ ++ ((o, c0) :: ρ.zip Θ)) := q.perm List.perm_middle.symm
    exact EnvL.drop q2
theorem Env.only0 {S : Type} [Own S] {s : S} {v0 : V} (E : Env K I H σ (.own s (some v0) :: Γ) ρ Θ) : Env K I H [some v0] [.own s (some v0)] ρ Θ := by
  obtain ⟨o, _, q⟩ := E.only (o0 := none)
  have z : EnvL K I H ((o, Cell.own s (some v0)) :: ρ.zip Θ) := q.2.2
  obtain ⟨_, fs, h1, _⟩ := id z
  cases fs with
  | nil => exact h1.elim
  | cons f fs =>
    obtain ⟨w, e1, e2, _⟩ := h1.1
    have e1 : o = some w := e1
    subst e1
    have e3 : w = v0 := e2 v0 rfl
    subst e3
    exact q
/-- an owned list is returned -/
theorem st_retO [Own α] {a : α} {pn : Option V} (E : Env K I H σ Γ ρ Θ) (hΓ : Γ[i]? = some (.own a pn)) (h : ∀ I' H' v, Env K I' H' [] [] (some v :: ρ) (.own a pn :: Θ) → dr v H') : tRet (tVar i) ⟨dn, dr, db, dc⟩ σ H := by
  obtain ⟨o, r, ho, e, _⟩ := E.pick hΓ
  obtain ⟨o2, ho2⟩ := E.slot hΓ
  obtain ⟨r2, p1, _⟩ := perm_at (zip_at ho hΓ)
  have z : EnvL K I H ((o, .own a pn) :: (r2 ++ ρ.zip Θ)) := E.2.2.perm (p1.append_right _)
  have z2 : EnvL K I H ((o, .own a pn) :: ρ.zip Θ) := by
    have z3 : EnvL K I H (r2 ++ ((o, .own a pn) :: ρ.zip Θ)) := z.perm List.perm_middle.symm
    exact EnvL.drop z3
  obtain ⟨_, fs, h1, _⟩ := id z
  cases fs with
  | nil => exact h1.elim
  | cons f fs =>
    obtain ⟨w, e1, _, _⟩ := h1.1
    have e1 : o = some w := e1
    subst e1
    exact ⟨w, ho, h I H w ⟨rfl, by simp [E.2.1], z2⟩⟩
/-- an expression's value dropped -/
theorem st_drop (E : Env K I H σ Γ (some v :: ρ) (c :: Θ)) (next : Env K I H σ Γ ρ Θ → dn σ H) : dn σ H := next E.pop
end
end M
namespace M
open PySem PySem.Spec PyProof.Rows L2
section
variable {K : PySem.W.Frag} {mg : Str → Option Value} {I H I' H' : Hp} {σ σ' ρ : List (Option V)} {Γ Γ' Θ : List Cell} {i j n : Nat} {v v1 v2 v3 : V} {c c1 c2 : Cell} {te tl ti : TE} {ta : TA} {tt : TT} {t u : TS} {dn db dc : L2.St → Hp → Prop} {dr : VK} {Q : VK} {W : WX}
variable {pn : Option V} {ω : Type} {P : ω → Prop} {X : Exn → Prop} {α β γ δ : Type}
/-! ### lists: new ones -/
theorem Env.collect [Rep α] : ∀ {xs : List α} {vs : List V}, vs.length = xs.length → Env K I H σ Γ ((vs.map some).reverse ++ ρ) ((xs.map Cell.im).reverse ++ Θ) → Paired (fun v x => Rep.rp K I v x) vs xs ∧ Env K I H σ Γ ρ Θ := by
  intro xs
  induction xs generalizing ρ Θ with
  | nil =>
    intro vs h E
    cases vs with
    | nil => exact ⟨.nil, E⟩
    | cons v vs => simp at h
  | cons x xs ih =>
    intro vs h E
    cases vs with
    | nil => simp at h
    | cons v vs =>
      have e1 : ((v :: vs).map some).reverse ++ ρ = (vs.map some).reverse ++ (some v :: ρ) := by simp
      have e2 : ((x :: xs).map Cell.im).reverse ++ Θ = (xs.map Cell.im).reverse ++ (Cell.im x :: Θ) := by simp
      rw [e1, e2] at E
      obtain ⟨p, E'⟩ := ih (by simpa using h) E
      exact ⟨.cons E'.topR p, E'.pop⟩
theorem Env.newI [Rep α] {p : Addr} {u : HO} {x : α} (E : Env K I H σ Γ ρ Θ) (hp : H p = none) (r : Rep.rp K (upd I p u) (.ref p) x) : Env K (upd I p u) (upd H p u) σ Γ (some (.ref p) :: ρ) (.im x :: Θ) :=
  (E.grow (Grow.newI E.same hp)).push r
theorem Env.same_newI {p : Addr} {u : HO} (E : Env K I H σ Γ ρ Θ) (hp : H p = none) : Same I (upd I p u) := (Grow.newI E.same hp).im
/-- a new list, owned | not to be changed -/
theorem st_newO [Rep α] {vs : List V} {xs : List α} (E : Env K I H σ Γ ρ Θ) (r : Paired (fun v x => Rep.rp K I v x) vs xs) (next : ∀ H' v, Env K I H' σ Γ (some v :: ρ) (.own xs :: Θ) → Q v H') : ∀ p, H p = none → Q (.ref p) (upd H p (.lst vs)) :=
  fun p hp => next _ _ (E.newL hp r)
theorem st_newI [Rep α] {vs : List V} {xs : List α} (E : Env K I H σ Γ ρ Θ) (r : Paired (fun v x => Rep.rp K I v x) vs xs) (next : ∀ I' H' v, Env K I' H' σ Γ (some v :: ρ) (.im xs :: Θ) → Q v H') : ∀ p, H p = none → Q (.ref p) (upd H p (.lst vs)) :=
  fun p hp => next _ _ _ (E.newI hp ⟨p, vs, rfl, upd_same, Paired.monoR (fun _ _ z => Rep.mono (E.same_newI hp) z) r⟩)
theorem line_of {n : Nat} (h : n ≤ line) : n ≤ sizeLine := by rw [← line_eq]; exact h
/-- [a, b, ..] -/
theorem st_lstO [Rep α] (vs : List V) (xs : List α) (hl : vs.length = xs.length) (hz : vs.length ≤ line) (E : Env K I H σ Γ ((vs.map some).reverse ++ ρ) ((xs.map Cell.im).reverse ++ Θ))
    (next : ∀ H' v, Env K I H' σ Γ (some v :: ρ) (.own xs :: Θ) → Q v H') : LsG vs H Q :=
  ⟨line_of hz, st_newO (E.collect hl).2 (E.collect hl).1 next⟩
theorem st_lstI [Rep α] (vs : List V) (xs : List α) (hl : vs.length = xs.length) (hz : vs.length ≤ line) (E : Env K I H σ Γ ((vs.map some).reverse ++ ρ) ((xs.map Cell.im).reverse ++ Θ))
    (next : ∀ I' H' v, Env K I' H' σ Γ (some v :: ρ) (.im xs :: Θ) → Q v H') : LsG vs H Q :=
  ⟨line_of hz, st_newI (E.collect hl).2 (E.collect hl).1 next⟩
/-- an owned list is let be -/
theorem st_freeze [Rep α] {xs : List α} {A : Prop} (E : Env K I H σ Γ ρ Θ) (hΓ : Γ[i]? = some (.own xs pn)) (hs : Γ.set i (.im xs) = Γ') (next : ∀ I', Env K I' H σ Γ' ρ Θ → A) : A := by
  subst hs
  obtain ⟨p, vs, _, _, _, _, _, fz⟩ := E.ownAt hΓ
  exact next _ fz
theorem st_freezeT [Rep α] {xs : List α} {A : Prop} (E : Env K I H σ Γ (some v :: ρ) (.own xs pn :: Θ)) (next : ∀ I', Env K I' H σ Γ (some v :: ρ) (.im xs :: Θ) → A) : A := by
  obtain ⟨p, vs, _, _, _, _, _, fz⟩ := E.unstack.ownL
  exact next _ ((Env.pop E).toStack fz)
/-! ### reading lists -/
def lGet (xs : List α) (i : Int) : Res α := match atI xs i with | some x => .ok x | none => .bad
theorem atI_paired {f : V → α → Prop} {vs : List V} {xs : List α} (p : Paired f vs xs) {i : Int} {x : α} (h : atI xs i = some x) : ∃ v, atI vs i = some v ∧ f v x := by
  have hl : vs.length = xs.length := Paired.length p
  unfold atI at h ⊢
  rw [hl]
  cases e : ixN xs.length i with
  | none => rw [e] at h; cases h
  | some k =>
    rw [e] at h
    have hx : xs[k]? = some x := h
    have hk := (List.getElem?_eq_some_iff.mp hx).1
    have hv : vs[k]? = some (vs[k]'(by omega)) := List.getElem?_eq_getElem (by omega)
    exact ⟨_, hv, paired_at p hv hx⟩
theorem rp_list {K : PySem.W.Frag} [Rep α] {xs : List α} {v : V} (r : Rep.rp K I v xs) : ∃ a vs, v = .ref a ∧ I a = some (.lst vs) ∧ Paired (fun v x => Rep.rp K I v x) vs xs := r
section
variable [Sca α] {xs : List α}
theorem hf_ix_of {m : Res Int} (hv : ∀ {I H : Hp} {σ ρ : List (Option V)} {Θ : List Cell}, Env K I H σ Γ ρ Θ → ∃ a vs, σ[j]? = some (some (.ref a)) ∧ H a = some (.lst vs) ∧ Paired (fun v x => Rep.rp K I v x) vs xs) (hi : HF K ti Γ m) :
    HF K (tOp (rIxL K) (tVar j) ti) Γ (m.bind fun i => lGet xs i) := .mk fun X Q E q => by
  obtain ⟨a, vs, hs, ha, p⟩ := hv E
  refine ⟨_, hs, hi.run X _ E (wpb q fun i q _ => ?_)⟩
  unfold lGet at q
  cases e : atI xs i with
  | none => rw [e] at q; exact q.elim
  | some x =>
    rw [e] at q
    obtain ⟨w, e2, r⟩ := atI_paired p e
    have r' : w = enc x ∧ okv x := r
    refine ⟨a, vs, i, w, rfl, rfl, SqL.of ha, e2, ?_⟩
    rw [r'.1]
    exact q r'.2
theorem Env.listAt [Rep β] {ys : List β} (E : Env K I H σ Γ ρ Θ) (hΓ : Γ[j]? = some (.im ys)) : ∃ a vs, σ[j]? = some (some (.ref a)) ∧ H a = some (.lst vs) ∧ Paired (fun v x => Rep.rp K I v x) vs ys := by
  obtain ⟨v, hs, a, vs, e, ha, p⟩ := E.get hΓ
  subst e
  exact ⟨a, vs, hs, E.same _ _ ha, p⟩
theorem Env.ownAt' [Rep β] {ys : List β} (E : Env K I H σ Γ ρ Θ) (hΓ : Γ[j]? = some (.own ys pn)) : ∃ a vs, σ[j]? = some (some (.ref a)) ∧ H a = some (.lst vs) ∧ Paired (fun v x => Rep.rp K I v x) vs ys := by
  obtain ⟨p, vs, hs, hp, _, r, _⟩ := E.ownAt hΓ
  exact ⟨p, vs, hs, hp, r⟩
theorem hf_ixL (hΓ : Γ[j]? = some (.im xs)) {m : Res Int} (hi : HF K ti Γ m) : HF K (tOp (rIxL K) (tVar j) ti) Γ (m.bind fun i => lGet xs i) := hf_ix_of (fun E => E.listAt hΓ) hi
theorem hf_ixLp (hΓ : Γ[j]? = some (.im xs)) {i : Int} (hi : HF K ti Γ (.ok i)) : HF K (tOp (rIxL K) (tVar j) ti) Γ (lGet xs i) := hf_ixL hΓ hi
theorem hf_ixO (hΓ : Γ[j]? = some (.own xs pn)) {m : Res Int} (hi : HF K ti Γ m) : HF K (tOp (rIxL K) (tVar j) ti) Γ (m.bind fun i => lGet xs i) := hf_ix_of (fun E => E.ownAt' hΓ) hi
theorem hf_ixOp (hΓ : Γ[j]? = some (.own xs pn)) {i : Int} (hi : HF K ti Γ (.ok i)) : HF K (tOp (rIxL K) (tVar j) ti) Γ (lGet xs i) := hf_ixO hΓ hi
end
abbrev rLen2 (K : PySem.W.Frag) : List V → Hp → VK → Prop := fun xs H Q => ∃ p ys, xs = [.ref p] ∧ (SqL K H p ys ∨ SqT K H p ys) ∧ Q (.int ys.length) H
theorem hf_lenL [Rep α] {xs : List α} (hΓ : Γ[j]? = some (.im xs)) : HF K (tCB (rLen2 K) (tCons (tVar j) tNil)) Γ (.ok ((xs.length : Nat) : Int)) := .mk fun X Q E q => by
  obtain ⟨a, vs, hs, ha, p⟩ := E.listAt hΓ
  refine ⟨_, hs, a, vs, rfl, .inl (SqL.of ha), ?_⟩
  have hl : vs.length = xs.length := Paired.length p
  rw [hl]
  exact q trivial
theorem hf_lenO [Rep α] {xs : List α} (hΓ : Γ[j]? = some (.own xs pn)) : HF K (tCB (rLen2 K) (tCons (tVar j) tNil)) Γ (.ok ((xs.length : Nat) : Int)) := .mk fun X Q E q => by
  obtain ⟨a, vs, hs, ha, p⟩ := E.ownAt' hΓ
  refine ⟨_, hs, a, vs, rfl, .inl (SqL.of ha), ?_⟩
  have hl : vs.length = xs.length := Paired.length p
  rw [hl]
  exact q trivial
theorem hf_lenT [Rep α] {xs : TupL α} (hΓ : Γ[j]? = some (.im xs)) : HF K (tCB (rLen2 K) (tCons (tVar j) tNil)) Γ (.ok ((xs.l.length : Nat) : Int)) := .mk fun X Q E q => by
  obtain ⟨v, hs, a, vs, e, ha, p⟩ := E.get hΓ
  subst e
  refine ⟨_, hs, a, vs, rfl, .inr (same_seqT E.same ha), ?_⟩
  have hl : vs.length = xs.l.length := Paired.length p
  rw [hl]
  exact q trivial
/-- len of what is on the stack -/
theorem st_lenL [Rep α] {xs : List α} (E : Env K I H σ Γ (some v :: ρ) (.im xs :: Θ)) (next : ∀ v, Env K I H σ Γ (some v :: ρ) (.im ((xs.length : Nat) : Int) :: Θ) → Q v H) : CbG (rLen2 K) [v] H Q := by
  obtain ⟨a, vs, e, ha, p⟩ := E.topR
  subst e
  have hl : vs.length = xs.length := Paired.length p
  exact ⟨a, vs, rfl, .inl (SqL.of (E.same _ _ ha)), next _ (E.pop.pushS (a := ((vs.length : Nat) : Int)) trivial |> fun z => by rw [← hl]; exact z)⟩
/-- xs[i], both on the stack -/
theorem st_ixL [Rep α] {xs : List α} {i : Int} {k : α → Res ω} (E : Env K I H σ Γ (some v2 :: some v1 :: ρ) (.im i :: .im xs :: Θ)) (h : wp ((lGet xs i).bind k) P X)
    (next : ∀ x v, Env K I H σ Γ (some v :: ρ) (.im x :: Θ) → wp (k x) P X → Q v H) : OpG (rIxL K) v1 v2 H Q := by
  obtain ⟨e2, _⟩ := E.topS
  subst e2
  obtain ⟨a, vs, e, ha, p⟩ := E.pop.topR
  subst e
  unfold lGet at h
  cases e : atI xs i with
  | none => rw [e] at h; exact h.elim
  | some x =>
    rw [e] at h
    obtain ⟨w, e2, r⟩ := atI_paired p e
    exact ⟨a, vs, i, w, rfl, rfl, SqL.of (E.same _ _ ha), e2, next x w (E.pop.pop.push r) h⟩
/-- xs[lo:hi] -/
theorem cutV_cutL (vs : List V) (lo hi : Option Int) : cutV vs lo hi = cutL vs lo hi := rfl
theorem cut_paired {f : V → α → Prop} {vs : List V} {xs : List α} (p : Paired f vs xs) (lo hi : Option Int) : Paired f (cutL vs lo hi) (cutL xs lo hi) := by
  have hl : vs.length = xs.length := Paired.length p
  unfold cutL
  rw [hl]
  have dr : ∀ {vs : List V} {xs : List α} (n : Nat), Paired f vs xs → Paired f (vs.drop n) (xs.drop n) := by
    intro vs xs n q
    induction q generalizing n with
    | nil => simp; exact .nil
    | cons r t ih =>
      cases n with
      | zero => exact .cons r t
      | succ n => exact ih n
  have tk : ∀ {vs : List V} {xs : List α} (n : Nat), Paired f vs xs → Paired f (vs.take n) (xs.take n) := by
    intro vs xs n q
    induction q generalizing n with
    | nil => simp; exact .nil
    | cons r t ih =>
      cases n with
      | zero => exact .nil
      | succ n => exact .cons r (ih n)
  exact tk _ (dr _ p)
theorem st_cutI [Rep α] {xs : List α} {tl th : TO} {ml mh : Res (Option Int)} {k : List α → Res ω} (E : Env K I H σ Γ (some v :: ρ) (.im xs :: Θ)) (hl : HSl K tl Γ ml) (hh : HSl K th Γ mh) (h : wp (ml.bind fun lo => mh.bind fun hi => k (cutL xs lo hi)) P X)
    (next : ∀ ys I' H' v, Env K I' H' σ Γ (some v :: ρ) (.im ys :: Θ) → wp (k ys) P X → Q v H') : tl σ H fun l H2 => th σ H2 fun u H3 => rSlL K v l u H3 Q :=
  hl.run X _ E (wpb h fun lo h => hh.run X _ E (wpb h fun hi h => by
    obtain ⟨a, vs, e, ha, p⟩ := E.topR
    subst e
    exact ⟨a, vs, rfl, SqL.of (E.same _ _ ha), st_newI (Env.pop E) (cut_paired p lo hi) fun I' H' v E' => next _ I' H' v E' h⟩))
theorem st_cutO [Rep α] {xs : List α} {tl th : TO} {ml mh : Res (Option Int)} {k : List α → Res ω} (E : Env K I H σ Γ (some v :: ρ) (.im xs :: Θ)) (hl : HSl K tl Γ ml) (hh : HSl K th Γ mh) (h : wp (ml.bind fun lo => mh.bind fun hi => k (cutL xs lo hi)) P X)
    (next : ∀ ys I' H' v, Env K I' H' σ Γ (some v :: ρ) (.own ys :: Θ) → wp (k ys) P X → Q v H') : tl σ H fun l H2 => th σ H2 fun u H3 => rSlL K v l u H3 Q :=
  hl.run X _ E (wpb h fun lo h => hh.run X _ E (wpb h fun hi h => by
    obtain ⟨a, vs, e, ha, p⟩ := E.topR
    subst e
    exact ⟨a, vs, rfl, SqL.of (E.same _ _ ha), st_newO (Env.pop E) (cut_paired p lo hi) fun H' v E' => next _ _ H' v E' h⟩))
/-! ### changing lists -/
noncomputable def lApp (xs : List α) (x : α) : Res (List α) := clo (if xs.length < line then .ok (xs ++ [x]) else .bad)
theorem paired_app {f : V → α → Prop} {vs ws : List V} {xs ys : List α} (p : Paired f vs xs) (q : Paired f ws ys) : Paired f (vs ++ ws) (xs ++ ys) := by
  induction p with
  | nil => exact q
  | cons r t ih => exact .cons r ih
theorem st_bmO [Rep α] {xs : List α} {r : V → List V → Hp → VK → Prop} (E : Env K I H σ Γ ρ Θ) (hΓ : Γ[i]? = some (.own xs pn)) (next : ∀ l, σ[i]? = some (some (.ref l)) → ta σ H fun vs H2 => r (.ref l) vs H2 Q) : tBM K "list" r (tVar i) ta σ H Q := by
  obtain ⟨p, vs, hs, hp, _⟩ := E.ownAt' hΓ
  exact ⟨_, hs, .inl ⟨rfl, vs, SqL.of hp⟩, next p hs⟩
theorem st_bm0O [Rep α] {xs : List α} {r : V → List V → Hp → VK → Prop} (E : Env K I H σ Γ ρ Θ) (hΓ : Γ[i]? = some (.own xs pn)) (next : ∀ l, σ[i]? = some (some (.ref l)) → r (.ref l) [] H Q) : tBM0 K "list" r (tVar i) σ H Q := by
  obtain ⟨p, vs, hs, hp, _⟩ := E.ownAt' hΓ
  exact ⟨_, hs, .inl ⟨rfl, vs, SqL.of hp⟩, next p hs⟩
theorem st_app [Rep α] {xs : List α} {x : α} {k : List α → Res ω} {l : Addr} (E : Env K I H σ Γ (some v :: ρ) (.im x :: Θ)) (hl : σ[i]? = some (some (.ref l))) (hΓ : Γ[i]? = some (.own xs pn)) (h : wp ((lApp xs x).bind k) P X)
    (next : ∀ ys H', Env K I H' σ (Γ.set i (.own ys pn)) ρ Θ → wp (k ys) P X → Q .non H') : rAppend (.ref l) [v] H Q := by
  obtain ⟨p, vs, hs, hp, _, q, ch, _⟩ := E.ownAt hΓ
  have e : l = p := by
    rw [hl] at hs
    exact V.ref.inj (Option.some.inj (Option.some.inj hs))
  subst e
  have rx := E.topR
  unfold lApp at h
  rw [clo_eq] at h
  by_cases hz : xs.length < line
  · rw [if_pos hz] at h
    have hlen : vs.length = xs.length := Paired.length q
    exact ⟨l, vs, v, rfl, rfl, hp, by rw [hlen, ← line_eq]; exact hz, next _ _ (ch (Grow.refl E.same) _ _ (paired_app q (.cons rx .nil))).pop h⟩
  · rw [if_neg hz] at h
    exact h.elim
end
end M
namespace M
open PySem PySem.Spec PyProof.Rows L2
/-! ### comprehensions with one plain name as target -/
def mapR {α β : Type} (f : α → Res β) : List α → Res (List β)
  | [] => .ok []
  | x :: xs => (f x).bind fun y => (mapR f xs).bind fun ys => .ok (y :: ys)
def filR {α β : Type} (t : α → Res Bool) (f : α → Res β) : List α → Res (List β)
  | [] => .ok []
  | x :: xs => (t x).bind fun b => if b = true then (f x).bind fun y => (filR t f xs).bind fun ys => .ok (y :: ys) else filR t f xs
/-- the length of what is walked is below the line: told once -/
noncomputable def lcR {α β : Type} (t : α → Res Bool) (f : α → Res β) (xs : List α) : Res (List β) := clo (if xs.length ≤ line then filR t f xs else .bad)
noncomputable def lcM {α β : Type} (f : α → Res β) (xs : List α) : Res (List β) := clo (if xs.length ≤ line then mapR f xs else .bad)
theorem mapR_fil {α β : Type} (f : α → Res β) (xs : List α) : mapR f xs = filR (fun _ => .ok true) f xs := by
  induction xs with
  | nil => rfl
  | cons x xs ih =>
    show (f x).bind _ = (f x).bind _
    rw [ih]
theorem lcM_lcR {α β : Type} (f : α → Res β) (xs : List α) : lcM f xs = lcR (fun _ => .ok true) f xs := by
  unfold lcM lcR
  rw [clo_eq, clo_eq, mapR_fil]
section
variable {K : PySem.W.Frag} {mg : Str → Option Value} {I H I' H' : Hp} {σ σ' ρ : List (Option V)} {Γ Γ' Θ : List Cell} {i j n : Nat} {v v1 v2 v3 : V} {c c1 c2 : Cell} {o : Option V} {te tl ti : TE} {ta : TA} {tt : TT} {t u : TS} {dn db dc : L2.St → Hp → Prop} {dr : VK} {Q : VK} {W : WX}
variable {ω : Type} {P : ω → Prop} {X : Exn → Prop} {α β γ δ : Type}
/-- a slot's entry is put aside -/
theorem Env.aside (E : Env K I H σ Γ ρ Θ) (h : Γ[i]? = some c) : ∃ o, σ[i]? = some o ∧ Env K I H (σ.set i none) (Γ.set i .any) (o :: ρ) (c :: Θ) := by
  obtain ⟨o, r, ho, e, back⟩ := E.pick h
  refine ⟨o, ho, ?_⟩
  obtain ⟨o2, ho2⟩ := E.slot h
  obtain ⟨r2, p1, p2⟩ := perm_at (zip_at ho h)
  refine ⟨by simp [E.1], by simp [E.2.1], ?_⟩
  rw [zip_set]
  have q : EnvL K I H ((o, c) :: (r2 ++ ρ.zip Θ)) := E.2.2.perm (p1.append_right _)
  have q2 : EnvL K I H ((none, Cell.any) :: (o, c) :: (r2 ++ ρ.zip Θ)) := q.any
  have pp : ((none, Cell.any) :: (o, c) :: (r2 ++ ρ.zip Θ)).Perm ((σ.zip Γ).set i (none, Cell.any) ++ (o :: ρ).zip (c :: Θ)) := by
    have a1 : ((σ.zip Γ).set i (none, Cell.any) ++ (o :: ρ).zip (c :: Θ)).Perm (((none, Cell.any) :: r2) ++ ((o, c) :: ρ.zip Θ)) := (p2 _).append_right _
    refine List.Perm.trans ?_ a1.symm
    refine List.Perm.cons _ ?_
    exact List.perm_middle.symm
  exact q2.perm pp
/-- .. and put back -/
theorem Env.again (E : Env K I H (σ.set i o) (Γ.set i .any) (o' :: ρ) (c :: Θ)) (ho : σ[i]? = some o') (h : Γ[i]? = some c) : Env K I H σ Γ ρ Θ := by
  have hi : i < Γ.length := (List.getElem?_eq_some_iff.mp h).1
  have q := Env.store (i := i) E (by simpa using hi) rfl
  rw [List.set_set, List.set_set, set_same ho, set_same h] at q
  exact q
theorem Env.anyOf (E : Env K I H σ (Γ.set i .any) ρ Θ) (hi : i < Γ.length) : Env K I H (σ.set i none) (Γ.set i .any) ρ Θ := by
  have h : (Γ.set i .any)[i]? = some .any := List.getElem?_set_self hi
  obtain ⟨o, ho, q⟩ := E.aside h
  have q2 := q.pop
  rw [List.set_set] at q2
  exact q2
theorem wkAny : ∀ {Γ : List Cell} {i : Nat}, Wk Γ (Γ.set i .any)
  | [], _ => trivial
  | c :: Γ, 0 => ⟨.inl rfl, by
    have all : ∀ Γ : List Cell, Wk Γ Γ := by
      intro Γ
      induction Γ with
      | nil => trivial
      | cons c Γ ih => exact ⟨.inr rfl, ih⟩
    exact all Γ⟩
  | c :: Γ, i + 1 => ⟨.inr rfl, wkAny (Γ := Γ) (i := i)⟩
theorem mapR_at {f : α → Res β} {xs : List α} {x : α} (hx : xs[i]? = some x) : mapR f (xs.drop i) = (f x).bind fun y => (mapR f (xs.drop (i + 1))).bind fun ys => .ok (y :: ys) := by
  obtain ⟨hi, e⟩ := List.getElem?_eq_some_iff.mp hx
  rw [List.drop_eq_getElem_cons hi, e]
  rfl
theorem filR_at {t : α → Res Bool} {f : α → Res β} {xs : List α} {x : α} (hx : xs[i]? = some x) : filR t f (xs.drop i) = (t x).bind fun b => if b = true then (f x).bind fun y => (filR t f (xs.drop (i + 1))).bind fun ys => .ok (y :: ys) else filR t f (xs.drop (i + 1)) := by
  obtain ⟨hi, e⟩ := List.getElem?_eq_some_iff.mp hx
  rw [List.drop_eq_getElem_cons hi, e]
  rfl
theorem wipe1 (σ : L2.St) (i : Nat) : wipe σ [i] = σ.set i none := rfl
/-- [e for x in xs if t], made to be owned -/
theorem st_lcf [Rep α] [Rep β] {xs : List α} {J : It} {ρe : List (Option V)} {Θe : List Cell} {t : α → Res Bool} {f : α → Res β} {k : List β → Res ω} (hJ : Feeds K J xs ρe Θe)
    (E : Env K I H σ Γ (ρe ++ ρ) (Θe ++ Θ)) (hΓ : Γ[i]? = some c) (h : wp ((lcR t f xs).bind k) P X)
    (next : ∀ ys I' H' v, Env K I' H' σ Γ (some v :: ρ) (.own ys :: Θ) → wp (k ys) P X → Q v H')
    (turn : ∀ x I' H' σ' ρ' Θ' (Qt : Bool → Hp → Prop), Env K I' H' σ' (Γ.set i (.im x)) ρ' Θ' → wp (t x) (fun b => ∀ I'' H'', Env K I'' H'' σ' (Γ.set i (.im x)) ρ' Θ' → Qt b H'') X → tt σ' H' Qt)
    (elt : ∀ x I' H' σ' ρ' Θ' (Qe : VK), Env K I' H' σ' (Γ.set i (.im x)) ρ' Θ' → wp (f x) (fun z => ∀ I'' H'' w, Env K I'' H'' σ' (Γ.set i (.im x)) (some w :: ρ') (.im z :: Θ') → Qe w H'') X → te σ' H' Qe) :
    LcG J (gName i) tt te [i] σ H Q := by
  intro D hD
  have hi : i < Γ.length := (List.getElem?_eq_some_iff.mp hΓ).1
  unfold lcR at h
  rw [clo_eq] at h
  by_cases hz : xs.length ≤ line
  case neg =>
    rw [if_neg hz] at h
    exact h.elim
  rw [if_pos hz] at h
  obtain ⟨o, ho, E1⟩ := E.aside hΓ
  have E2 := E1.newL (α := β) (vs := []) (xs := []) hD .nil
  -- the state: the list so far on top
  refine ⟨fun n m H' => m = xs.length - n ∧ n ≤ xs.length ∧ ∃ acc I', acc.length ≤ n ∧ Env K I' H' (σ.set i none) (Γ.set i .any) (some (.ref D) :: o :: (ρe ++ ρ)) (.own acc :: c :: (Θe ++ Θ)) ∧
    wp ((filR t f (xs.drop n)).bind fun ys => k (acc ++ ys)) P X, ⟨xs.length, by simp, Nat.zero_le _, [], I, Nat.le_refl _, E2, h⟩, ?_⟩
  rintro n m H' ⟨rfl, hn, acc, I', ha, E', h'⟩
  -- the walk's entries, seen
  have EJ : Env K I' H' (σ.set i none) (Γ.set i .any) (ρe ++ (some (.ref D) :: o :: ρ)) (Θe ++ (.own acc :: c :: Θ)) := by
    refine ⟨E'.1, ?_, E'.2.2.perm ((List.Perm.refl _).append ?_)⟩
    · have := E'.2.1
      have l := hJ.len
      simp only [List.length_append, List.length_cons] at this ⊢
      omega
    · have l := hJ.len
      show (((some (V.ref D), Cell.own acc) :: (o, c) :: ((ρe ++ ρ).zip (Θe ++ Θ)))).Perm _
      rw [List.zip_append l, List.zip_append l]
      show ((some (V.ref D), Cell.own acc) :: (o, c) :: (ρe.zip Θe ++ ρ.zip Θ)).Perm (ρe.zip Θe ++ ((some (V.ref D), Cell.own acc) :: (o, c) :: ρ.zip Θ))
      exact ((List.perm_middle.symm).cons _ |>.trans List.perm_middle.symm)
  by_cases hlt : n < xs.length
  · have hx : xs[n]? = some xs[n] := List.getElem?_eq_getElem hlt
    rw [filR_at hx, Res.bind_assoc] at h'
    refine .inr ⟨hJ.go n EJ hlt, fun H2 => ∃ acc I', acc.length ≤ n + 1 ∧ Env K I' H2 (σ.set i none) (Γ.set i .any) (some (.ref D) :: o :: (ρe ++ ρ)) (.own acc :: c :: (Θe ++ Θ)) ∧
      wp ((filR t f (xs.drop (n + 1))).bind fun ys => k (acc ++ ys)) P X, fun H2 z => ⟨xs.length - (n + 1), by omega, rfl, hlt, z⟩, fun y H2 hyl => ?_⟩
    obtain ⟨I2, g2, ry⟩ := hJ.yld n y H2 _ EJ hx hyl
    have E3 := ((E'.grow g2).push ry).store (i := i) (Γ' := Γ.set i (.im xs[n])) (by simpa using hi) (by rw [List.set_set])
    refine ⟨by show ((wipe σ [i]).set i (some y)).set i none = wipe σ [i]; rw [wipe1, List.set_set, List.set_set], ?_⟩
    have back : ∀ {I3 H3 : Hp} {ρ' : List (Option V)} {Θ' : List Cell}, Env K I3 H3 ((wipe σ [i]).set i (some y)) (Γ.set i (.im xs[n])) ρ' Θ' → Env K I3 H3 (σ.set i none) (Γ.set i .any) ρ' Θ' := by
      intro I3 H3 ρ' Θ' Z
      have z1 := Z.weak (wkAny (i := i))
      rw [List.set_set] at z1
      have z2 := Env.anyOf z1 hi
      rw [wipe1, List.set_set, List.set_set] at z2
      exact z2
    refine turn xs[n] I2 H2 _ _ _ _ E3 (wpb h' fun b h' I3 H3 E4 => ?_)
    cases b with
    | false => exact ⟨acc, I3, by omega, back E4, h'⟩
    | true =>
      have h2 : wp (((f xs[n]).bind fun y => (filR t f (xs.drop (n + 1))).bind fun ys => .ok (y :: ys)).bind fun ys => k (acc ++ ys)) P X := h'
      rw [Res.bind_assoc] at h2
      refine elt xs[n] I3 H3 _ _ _ _ E4 (wpb h2 fun z h2 I4 H4 w E5 => ?_)
      rw [Res.bind_assoc] at h2
      have E6 := back E5
      have rz := E6.topR
      obtain ⟨p, vs, e1, hp, _, q, ch, _⟩ := E6.pop.unstack.ownL
      cases e1
      have hlen : vs.length = acc.length := Paired.length q
      refine ⟨vs, hp, by rw [hlen, ← line_eq]; omega, acc ++ [z], I4, by rw [List.length_append]; simp; exact ha, ?_, ?_⟩
      · exact E6.pop.pop.toStack (ch (Grow.refl E6.same) _ _ (paired_app q (.cons rz .nil)))
      · have e : (fun ys => k (acc ++ z :: ys)) = fun ys => k ((acc ++ [z]) ++ ys) := by
          funext ys
          rw [List.append_assoc]
          rfl
        rw [← e]
        exact h2
  · have e : n = xs.length := by omega
    subst e
    rw [List.drop_eq_nil_of_le (Nat.le_refl _)] at h'
    have h' : wp (k (acc ++ [])) P X := h'
    rw [List.append_nil] at h'
    refine .inl ⟨hJ.stop _ EJ (Nat.le_refl _), next acc I' H' _ ?_ h'⟩
    -- the entry back, the walk's entries gone
    have E7 : Env K I' H' (σ.set i none) (Γ.set i .any) (ρe ++ (o :: some (.ref D) :: ρ)) (Θe ++ (c :: .own acc :: Θ)) := by
      refine ⟨EJ.1, by have := EJ.2.1; simp only [List.length_append, List.length_cons] at this ⊢; omega, EJ.2.2.perm ((List.Perm.refl _).append ?_)⟩
      rw [List.zip_append hJ.len, List.zip_append hJ.len]
      exact (List.Perm.refl _).append (.swap _ _ _)
    exact (E7.drops hJ.len).again ho hΓ
/-- [e for x in xs] -/
theorem st_lcm [Rep α] [Rep β] {xs : List α} {J : It} {ρe : List (Option V)} {Θe : List Cell} {f : α → Res β} {k : List β → Res ω} (hJ : Feeds K J xs ρe Θe)
    (E : Env K I H σ Γ (ρe ++ ρ) (Θe ++ Θ)) (hΓ : Γ[i]? = some c) (h : wp ((lcM f xs).bind k) P X)
    (next : ∀ ys I' H' v, Env K I' H' σ Γ (some v :: ρ) (.own ys :: Θ) → wp (k ys) P X → Q v H')
    (elt : ∀ x I' H' σ' ρ' Θ' (Qe : VK), Env K I' H' σ' (Γ.set i (.im x)) ρ' Θ' → wp (f x) (fun z => ∀ I'' H'' w, Env K I'' H'' σ' (Γ.set i (.im x)) (some w :: ρ') (.im z :: Θ') → Qe w H'') X → te σ' H' Qe) :
    LcG J (gName i) tYes te [i] σ H Q := by
  rw [lcM_lcR] at h
  exact st_lcf hJ E hΓ h next (fun x I' H' σ' ρ' Θ' Qt E' q => q I' H' E') elt
end
theorem mapR_nil {α β : Type} {f : α → Res β} : mapR f [] = .ok [] := rfl
theorem mapR_cons {α β : Type} {f : α → Res β} {x : α} {xs : List α} : mapR f (x :: xs) = (f x).bind fun y => (mapR f xs).bind fun ys => .ok (y :: ys) := rfl
theorem filR_nil {α β : Type} {t : α → Res Bool} {f : α → Res β} : filR t f [] = .ok [] := rfl
theorem filR_cons {α β : Type} {t : α → Res Bool} {f : α → Res β} {x : α} {xs : List α} : filR t f (x :: xs) = (t x).bind fun b => if b = true then (f x).bind fun y => (filR t f xs).bind fun ys => .ok (y :: ys) else filR t f xs := rfl
end M
namespace M
open PySem PySem.Spec PyProof.Rows L2
section
variable {K : PySem.W.Frag} {mg : Str → Option Value} {I H I' H' : Hp} {σ σ' ρ ρ' : List (Option V)} {Γ Γ' Θ Θ' : List Cell} {i j n : Nat} {v v0 v1 v2 v3 : V} {c c1 c2 : Cell} {o : Option V} {te tl ti : TE} {ta : TA} {tt : TT} {t u : TS} {dn db dc : L2.St → Hp → Prop} {dr : VK} {Q : VK} {W : WX}
variable {pn : Option V} {ω : Type} {P : ω → Prop} {X : Exn → Prop} {α β γ δ : Type}
theorem Env.sperm (E : Env K I H σ Γ ρ Θ) (l : ρ'.length = Θ'.length) (p : (ρ.zip Θ).Perm (ρ'.zip Θ')) : Env K I H σ Γ ρ' Θ' := ⟨E.1, l, E.2.2.perm (p.append_left _)⟩
theorem st_callO' {X1 : Exn → Prop} {S A B : Type} [Own S] {cells : A → List Cell} {m : S → A → Res (B × S)} {oc : B → Cell} {vs : List V} {s : S} (a : A) {k : B × S → Res ω} (hΓ : Γ[i]? = some (.own s pn)) (h0 : σ[i]? = some (some v0))
    (E : Env K I H σ Γ ((vs.map some).reverse ++ ρ) ((cells a).reverse ++ Θ)) (hn : vs.length = n) (hc : (cells a).length = n)
    (h : wp (m s a) (fun b => wp (k b) P X) X1) (hX : ∀ e, X1 e → XWish K mg W σ (Γ.set i .any) ρ Θ e)
    (next : ∀ b I' H' v, Env K I' H' σ (Γ.set i (.own b.2 pn)) (some v :: ρ) (oc b.1 :: Θ) → wp (k b) P X → Q v H') : SpO K mg n cells m oc (v0 :: vs) H Q (WE W σ) := by
  have hi : i < Γ.length := (List.getElem?_eq_some_iff.mp hΓ).1
  obtain ⟨o, ho, E1⟩ := E.aside hΓ
  have eo : o = some v0 := Option.some.inj (ho.symm.trans h0)
  subst eo
  have hpin := E1.unstack.pin
  have E1 := (Env.pop E1).toStack (E1.unstack.repin (pn' := some v0) fun w e => Option.some.inj e)
  have lr : (vs.map some).reverse.length = (cells a).reverse.length := by simp [hn, hc]
  have l2 := E.2.1
  have E2 : Env K I H (σ.set i none) (Γ.set i .any) (((v0 :: vs).map some).reverse ++ ρ) ((Cell.own s (some v0) :: cells a).reverse ++ Θ) := by
    refine E1.sperm (by simp only [List.length_append, List.length_reverse, List.length_map, List.length_cons] at l2 ⊢; omega) ?_
    have e1 : ((v0 :: vs).map some).reverse ++ ρ = (vs.map some).reverse ++ (some v0 :: ρ) := by simp
    have e2 : (Cell.own s (some v0) :: cells a).reverse ++ Θ = (cells a).reverse ++ (Cell.own s (some v0) :: Θ) := by simp
    rw [e1, e2, List.zip_append lr, List.zip_cons_cons, List.zip_append lr, List.zip_cons_cons]
    exact List.perm_middle.symm
  have E3 := E2.enter (vs := (v0 :: vs).map some) (cs := Cell.own s (some v0) :: cells a) (by simp [hn, hc])
  have ls : (σ.set i none).length = (Γ.set i Cell.any).length := by simp [E.1]
  refine ⟨by simp [hn], s, a, I, _, _, E3, ?_⟩
  refine wp_mono h (fun b q I' H' v E' => ?_) fun e x I' H' cls d hm E' => ?_
  · have E4 : Env K I' H' (σ.set i none) (Γ.set i .any) (some v0 :: some v :: ρ) (.own b.2 pn :: oc b.1 :: Θ) := by
      have lz := E'.2.1
      simp only [List.length_cons, List.length_append] at lz
      have E'2 : EnvL K I' H' ((some v0, .own b.2 (some v0)) :: ((some v :: (σ.set i none ++ ρ)).zip (oc b.1 :: (Γ.set i Cell.any ++ Θ)))) := E'.2.2
      refine ⟨ls, by simp only [List.length_cons]; omega, (E'2.repin hpin).perm ?_⟩
      have e3 : ((some v :: (σ.set i none ++ ρ)).zip (oc b.1 :: (Γ.set i Cell.any ++ Θ))) = (some v, oc b.1) :: ((σ.set i none).zip (Γ.set i .any) ++ ρ.zip Θ) := by
        rw [List.zip_cons_cons, List.zip_append ls]
      show (((some v0, Cell.own b.2 pn) :: []) ++ ((some v :: (σ.set i none ++ ρ)).zip (oc b.1 :: (Γ.set i Cell.any ++ Θ)))).Perm _
      rw [e3]
      show ((some v0, Cell.own b.2 pn) :: (some v, oc b.1) :: ((σ.set i none).zip (Γ.set i .any) ++ ρ.zip Θ)).Perm ((σ.set i none).zip (Γ.set i .any) ++ ((some v0, Cell.own b.2 pn) :: (some v, oc b.1) :: ρ.zip Θ))
      exact ((List.perm_middle.symm).cons _).trans List.perm_middle.symm
    have E5 := E4.store (i := i) (by simpa using hi) rfl
    rw [List.set_set, List.set_set, set_same h0] at E5
    exact next b I' H' v E5 q
  · have E4 := E'.leave (σ := σ.set i none) (Γ := Γ.set i .any) ls
    have E5 : Env K I' H' σ (Γ.set i .any) (some d :: ρ) (.im (XD.mk e.fs) :: Θ) := by
      have q := Env.store (i := i) (c := .any) (o := some v0) (E4.toStack E4.2.2.any) (by simpa using hi) rfl
      rw [List.set_set, List.set_set, set_same h0] at q
      exact q
    exact hX e x I' H' cls d hm E5
theorem st_callO {S A B : Type} [Own S] {cells : A → List Cell} {m : S → A → Res (B × S)} {oc : B → Cell} {vs : List V} {s : S} (a : A) {k : B × S → Res ω} (hΓ : Γ[i]? = some (.own s pn)) (h0 : σ[i]? = some (some v0))
    (E : Env K I H σ Γ ((vs.map some).reverse ++ ρ) ((cells a).reverse ++ Θ)) (hn : vs.length = n) (hc : (cells a).length = n)
    (h : wp ((m s a).bind k) P X) (hX : ∀ e, X e → XWish K mg W σ (Γ.set i .any) ρ Θ e)
    (next : ∀ b I' H' v, Env K I' H' σ (Γ.set i (.own b.2 pn)) (some v :: ρ) (oc b.1 :: Θ) → wp (k b) P X → Q v H') : SpO K mg n cells m oc (v0 :: vs) H Q (WE W σ) :=
  st_callO' a hΓ h0 E hn hc (wp_bind.mp h) hX next
/-- the first argument, an owned one: its value -/
theorem st_varO [Own α] {a : α} {Q : VK} (E : Env K I H σ Γ ρ Θ) (hΓ : Γ[i]? = some (.own a pn)) (next : ∀ v, σ[i]? = some (some v) → Q v H) : tVar i σ H Q := by
  obtain ⟨o, r, ho, e, _⟩ := E.pick hΓ
  obtain ⟨_, fs, h1, _⟩ := e
  cases fs with
  | nil => exact h1.elim
  | cons f fs =>
    obtain ⟨v, e1, _, _⟩ := h1.1
    have e1 : o = some v := e1
    subst e1
    exact ⟨v, ho, next v ho⟩
end
/-! ### calls with keywords, what is raised wished for at the caller's slots -/
section
variable {X : Cx} {CX : CXT} {k : Nat} {f : Addr} {fd : FuncData} {ps : List Str} {sp : Sp} {E : L2.St → XK} {x : Str} {p pos : Pos} {e : Expr} {es : List Expr} {ta : TE} {t tk : TA} {ks : List Str} {kws : List Keyword} {g : List Value → List Value → List Value} {gV : List V → List V → List V}
def tCallKS (n m : Nat) (sp : Sp) (gV : List V → List V → List V) (E : L2.St → XK) (t tk : TA) : TE := fun σ H Q => t σ H fun vs H1 => tk σ H1 fun zs H2 => vs.length = n ∧ zs.length = m ∧ sp (gV vs zs) H2 Q (E σ)
theorem run_fnKS {n : Nat} {pins : List (Addr × Obj)} {σ : L2.St} {H : Hp} {s : Shared} {Q : VK} {us ws : List Value} {vs zs : List V} (F : FnOk X.prog X.w X.K X.mg X.base CX k f fd ps sp) (hr : Room k X.A) (hb : KBn X.K fd ps n ks g gV) (hx : PassesAt CX X σ (E σ))
    (I : Inv X pins σ H s) (r : Vals vs us) (rz : Vals zs ws) (l1 : vs.length = n) (l2 : zs.length = ks.length) (h : sp (gV vs zs) H Q (E σ)) : wpAny (model X.prog X.w) X.A (call (.ref f) us (ks.zip ws)) (EP X pins σ Q) X.xe s := by
  have r2 := hb.rel r rz
  refine wpAny_call (codeAny_mono (F.run X.A X.stack s H ⟨us, ks.zip ws⟩ (g us ws) (gV vs zs) Q (E σ) hr I.env0 (hb.to s us ws I.kIn (r.length.symm.trans l1) (rz.length.symm.trans l2)) r2 h) fun r s' hq => ?_)
  cases r with
  | error e => exact hx pins H s e s' I hq
  | ok fl =>
    cases fl with
    | ret u => exact I.after hq
    | next => exact False.elim hq
    | brk => exact False.elim hq
    | cont => exact False.elim hq
theorem pe_callKS {n : Nat} (F : FnOk X.prog X.w X.K X.mg X.base CX k f fd ps sp) (hr : Room k X.A) (hg : Gl X x) (hm : X.mg x = some (.ref f)) (hk : PySem.W.keepIn X.K (.ref f) = true) (hb : KBn X.K fd ps n ks g gV) (hx : ∀ σ, PassesAt CX X σ (E σ))
    (ha : PA X (e :: es) t) (hkw : PK X kws tk) (hall : (backToKw pos (keywordEach kws X.env)).all (·.1.isSome) = true := by rfl) (hks : (backToKw pos (keywordEach kws X.env)).filterMap (·.1) = ks := by rfl)
    (hdb : (x == ("__debug__" : Str)) = false := by decide) (he : starEach (e :: es) X.env = (false, eval e X.env) :: starEach es X.env := by rfl)
    (hpl : ((backTo pos (starEach (e :: es) X.env)).any (·.1) || (backToKw pos (keywordEach kws X.env)).any (·.1.isNone)) = false := by rfl) :
    PE X (.Call (.Name x p) (e :: es) kws pos) (tCallKS n ks.length sp gV E t tk) := by
  refine ⟨fun pins s σ H Q I h => ?_⟩
  refine wpAny_Call_Name_kw (ld_glob I hg hm ?_ hdb)
  refine PySem.W.callWith_KW (h₀ := X.base) I.ok.mod.kin hk hall (thn (ha.run pos pins s σ H _ I h) fun us s1 ⟨vs, H1, I1, r, q⟩ => ?_) hpl he
  refine thn (hkw.run pos pins s1 σ H1 _ I1 q) fun ws s2 ⟨zs, H2, I2, rz, l1, l2, q2⟩ => ⟨I2.kIn, ?_⟩
  rw [hks]
  exact run_fnKS F hr hb (hx σ) I2 r rz l1 l2 q2
/-- keywords alone -/
theorem pe_callKS0 (F : FnOk X.prog X.w X.K X.mg X.base CX k f fd ps sp) (hr : Room k X.A) (hg : Gl X x) (hm : X.mg x = some (.ref f)) (hk : PySem.W.keepIn X.K (.ref f) = true) (hb : KBn X.K fd ps 0 ks g gV) (hx : ∀ σ, PassesAt CX X σ (E σ))
    (hkw : PK X kws tk) (hall : (backToKw pos (keywordEach kws X.env)).all (·.1.isSome) = true := by rfl) (hks : (backToKw pos (keywordEach kws X.env)).filterMap (·.1) = ks := by rfl)
    (hdb : (x == ("__debug__" : Str)) = false := by decide) (hpl : (backToKw pos (keywordEach kws X.env)).any (·.1.isNone) = false := by rfl) :
    PE X (.Call (.Name x p) [] kws pos) (tCallKS 0 ks.length sp gV E tNil tk) := by
  refine ⟨fun pins s σ H Q I h => ?_⟩
  refine wpAny_Call_Name_kw (ld_glob I hg hm ?_ hdb)
  refine PySem.W.callWith_KW0 (h₀ := X.base) I.ok.mod.kin hk hall ?_ hpl
  refine thn (hkw.run pos pins s σ H _ I h) fun ws s2 ⟨zs, H2, I2, rz, l1, l2, q2⟩ => ⟨I2.kIn, ?_⟩
  rw [hks]
  exact run_fnKS (us := []) (vs := []) F hr hb (hx σ) I2 .nil rz rfl l2 q2
end
/-- values by their places: the positional ones, then the keywords' -/
def gI {α : Type} (ix : List Nat) (us ws : List α) : List α := ix.filterMap fun i => (us ++ ws)[i]?
theorem gI_rel {ix : List Nat} {vs zs : List V} {us ws : List Value} (r : Vals vs us) (rz : Vals zs ws) : Vals (gI ix vs zs) (gI ix us ws) := by
  have q := r.append rz
  unfold gI
  induction ix with
  | nil => exact .nil
  | cons i ix ih =>
    cases e : (vs ++ zs)[i]? with
    | none =>
      rw [List.filterMap_cons_none e, List.filterMap_cons_none (q.none_of e)]
      exact ih
    | some v =>
      obtain ⟨u, e2, ru⟩ := q.get e
      rw [List.filterMap_cons_some e, List.filterMap_cons_some e2]
      exact .cons ru ih
theorem kbn_of {K : PySem.W.Frag} {x qual : Str} {st : Stmt} {f : Addr} {fd : FuncData} {ps ks : List Str} {n : Nat} (ix : List Nat) (F : Fun K x qual st f fd)
    (h : ∀ (kV doc pm : Value) (an : Option Addr) (cdv ct : Value) (us ws : List Value), us.length = n → ws.length = ks.length → bindArgs (PySem.W.fnOf x qual (defArgs st) (defBody st) (defScope st) .none kV doc pm an cdv ct) ⟨us, ks.zip ws⟩ = pure (ps.zip (gI ix us ws))) :
    KBn K fd ps n ks (gI ix) (gI ix) := by
  obtain ⟨oc, od, kV, doc, pm, an, cdv, ct, osl, rfl, lk, hcd⟩ := F.ex
  exact ⟨fun s us ws _ h1 h2 => .of_eq (h kV doc pm an cdv ct us ws h1 h2), gI_rel⟩
end M
namespace M
open PySem PySem.Spec PyProof.Rows L2
/-! ### texts: times, backward, truth; isinstance -/
noncomputable def xRep (w : Tx) (n : Int) : Res Tx := clo (if -(2 ^ 63) ≤ n ∧ n < 2 ^ 63 ∧ w.length * n.toNat ≤ line then .ok (List.replicate n.toNat w).flatten else .bad)
def rRepS : R2 := fun x y H Q => ∃ z i, x = .str z ∧ y = .int i ∧ -(2 ^ 63) ≤ i ∧ i < 2 ^ 63 ∧ z.length * i.toNat ≤ sizeLine ∧ Q (.str ⟨((List.replicate i.toNat z.cps.toList).flatten).toArray⟩) H
theorem fold_rep (c : Array Nat) : ∀ (n : Nat) (a : Array Nat), ((List.replicate n c).foldl (· ++ ·) a).toList = a.toList ++ (List.replicate n c.toList).flatten
  | 0, a => by simp
  | n + 1, a => by
    rw [List.replicate_succ, List.foldl_cons, fold_rep c n, List.replicate_succ, List.flatten_cons]
    simp
theorem op_rep_str {X : Cx} : OpR X (binaryOp .Mult) rRepS := by
  intro pins s σ H x y v u Q I rx ry h
  obtain ⟨z, i, rfl, rfl, h1, h2, hz, q⟩ := h
  obtain ⟨t, rfl⟩ := rx
  obtain ⟨t', rfl⟩ := ry
  have sl : (sizeLine : Nat) = 16777216 := sizeLine_eq
  refine P.mul_str ?_ ?_ ?_ ?_
  · have e1 : ¬ i < -(2 ^ 63 : Int) := by omega
    have e2 : ¬ i ≥ 2 ^ 63 := by omega
    rw [decide_eq_false e1, decide_eq_false e2]; rfl
  · intro hi _ hb
    have hp : (0 : Int) < i := by omega
    have h3 : (z.length : Int) * i ≤ 16777216 := by
      have e : i = ((i.toNat : Nat) : Int) := by omega
      rw [e]
      have : ((z.length * i.toNat : Nat) : Int) ≤ 16777216 := by omega
      simpa using this
    have h4 : (2 ^ 63 - 1) / i < (z.length : Int) := hb
    have h5 : (2 ^ 63 - 1 : Int) < (z.length : Int) * i := Int.lt_mul_of_ediv_lt hp h4
    omega
  · intro _ _
    exact decide_eq_false (Nat.not_lt.mpr hz)
  · by_cases hi : i < 1
    · rw [if_pos hi]
      have e : i.toNat = 0 := by omega
      rw [e] at q
      exact ⟨by decide, .str _, H, I.tok _, ⟨_, rfl⟩, q⟩
    · rw [if_neg hi]
      by_cases hb : (i == 1 || z.length == 0) = true
      · rw [if_pos hb]
        have e : (⟨((List.replicate i.toNat z.cps.toList).flatten).toArray⟩ : Str) = z := by
          apply ext_toList
          show (List.replicate i.toNat z.cps.toList).flatten = z.cps.toList
          rcases (Bool.or_eq_true _ _).mp hb with e | e
          · have : i = 1 := by simpa using e
            rw [this]
            simp
          · have : z.cps.size = 0 := by simpa [Str.length] using e
            have e2 : z.cps.toList = [] := by simpa using this
            rw [e2]
            simp
        rw [e] at q
        exact ⟨.str z, H, I, ⟨_, rfl⟩, q⟩
      · rw [if_neg hb]
        have e : (⟨((List.replicate i.toNat z.cps.toList).flatten).toArray⟩ : Str) = ⟨(List.replicate i.toNat z.cps).foldl (· ++ ·) #[]⟩ := by
          apply ext_toList
          rw [fold_rep]
          simp
        rw [e] at q
        refine ⟨?_, .str _, H, I.tok _, ⟨_, rfl⟩, q⟩
        show ((List.replicate i.toNat z.cps).foldl (· ++ ·) #[]).size ≤ sizeLine
        have e2 : ((List.replicate i.toNat z.cps).foldl (· ++ ·) #[]).size = z.length * i.toNat := by
          rw [← Array.length_toList, fold_rep]
          simp [Str.length, Nat.mul_comm]
        rw [e2]
        exact hz
theorem hr_repT {x : Tx} {y : Int} : HR rRepS x y (xRep x y) := .mk fun X Q _ _ q => by
  unfold xRep at q
  rw [clo_eq] at q
  split at q
  · rename_i h
    refine ⟨mkS x, y, rfl, rfl, h.1, h.2.1, by rw [mkS_len, ← line_eq]; exact h.2.2, ?_⟩
    rw [mkS_list]
    refine q ?_
    show ((List.replicate y.toNat x).flatten).length ≤ line
    rw [List.length_flatten, List.map_replicate, List.sum_replicate_nat, Nat.mul_comm]
    exact h.2.2
  · exact q.elim
/-- s[::-1] -/
def tRevS (te : TE) : TE := fun σ H Q => te σ H fun x H1 => ∃ z, x = .str z ∧ z.length ≤ sizeLine ∧ Q (.str ⟨z.cps.toList.reverse.toArray⟩) H1
theorem pe_revS {X : Cx} {e : Expr} {te : TE} {k : Nat} {p1 p2 p3 pos : Pos} (he : PE X e te) : PE X (.Subscript e (.Slice none none (some (.UnaryOp .USub (.Constant (.int 1) k p1) p2)) p3) pos) (tRevS te) := by
  refine ⟨fun pins s σ H Q I h => ?_⟩
  refine Subscript_ (thn (he.run pins s σ H _ I h) fun v s1 ⟨x, H1, I1, r1, q1⟩ => ?_)
  obtain ⟨z, ex, hz, q⟩ := q1
  subst ex
  obtain ⟨t, rfl⟩ := r1
  have hst : PO X (some (.UnaryOp .USub (.Constant (.int 1) k p1) p2)) (tPart (tUn (rU fun i => .int (-i)) (tC (.int 1)))) := po_some (pe_un un_neg pe_int)
  refine wpAny_Slice (thn (po_none.run pins s1 σ H1 (fun o H2 => o = none ∧ H2 = H1) I1 ⟨rfl, rfl⟩) fun vl s2 ⟨l, H2, I2, pl, el, e2⟩ => ?_)
  subst el e2
  refine thn (po_none.run pins s2 σ H2 (fun o H3 => o = none ∧ H3 = H2) I2 ⟨rfl, rfl⟩) fun vu s3 ⟨u, H3, I3, pu, eu, e3⟩ => ?_
  subst eu e3
  refine thn (hst.run pins s3 σ H3 (fun o H4 => o = some (-1) ∧ H4 = H3) I3 ⟨1, rfl, -1, rfl, rfl, rfl⟩) fun vs s4 ⟨o, H4, I4, ps, eo, e4⟩ => ?_
  subst eo e4
  have I5 : Inv X pins σ H4 { s4 with heap := s4.heap.push { cls := .type "slice", data := .fields #[vl, vu, vs] } } := I4.kept (t' := s4.toks) fun b ob q => Heap.get?_push_of_some _ q
  obtain ⟨l, rfl, el⟩ := IsPart.raw pl
  obtain ⟨u, rfl, eu⟩ := IsPart.raw pu
  obtain ⟨st, rfl, es⟩ := IsPart.raw ps
  have hl : l = none := by cases l <;> simp at el ⊢
  have hu : u = none := by cases u <;> simp at eu ⊢
  subst hl hu
  obtain ⟨d, tk, rfl⟩ : ∃ d tk, st = some (d, tk) := by
    cases st with
    | none => simp at es
    | some p => exact ⟨p.1, p.2, rfl⟩
  have hd : d = -1 := by
    have z : (-1 : Int) = d := by simpa using es.symm
    exact z.symm
  subst hd
  refine tail_any (T := "str") (ops := [.str z t, .ref s4.heap.objs.size]) (typeIs_str _ _ _) (F.slot_str_getitem.lookup) ?_ (by with_unfolding_all rfl)
  refine wpAny_getItem_str_slice (l := none) (u := none) (st := some (-1, tk)) ⟨_, Heap.get?_push_size _ rfl, rfl, rfl⟩ (by rfl) ?_
  have e : (⟨((slicePicked z none none (some (-1, tk))).filterMap (z.cps[·]?)).toArray⟩ : Str) = ⟨z.cps.toList.reverse.toArray⟩ := by
    have hr := step_rev_list z tk
    have e0 : (Txt.sliceBy z none none (-1, tk)) = ⟨((slicePicked z none none (some (-1, tk))).filterMap (z.cps[·]?)).toArray⟩ := by
      unfold Txt.sliceBy
      exact if_neg (by simp)
    rw [e0] at hr
    apply ext_toList
    refine hr.trans ?_
    show _ = z.cps.toList.reverse
    apply List.ext_getElem
    · simp [Str.length]
    · intro i h1 h2
      have hi : i < z.length := by simpa using h1
      have hi2 : i < z.cps.size := hi
      rw [List.getElem_map, List.getElem_range, List.getElem_reverse]
      have h3 : z.length - 1 - i < z.cps.size := by
        have : z.length = z.cps.size := rfl
        omega
      simp only [Array.getD, h3, dif_pos, Array.getElem_toList]
      first | rfl | simp [Str.length]
  show (sliceMade z t none none (some (-1, tk))).post _ _
  unfold sliceMade
  rw [if_neg (by simp), e]
  refine ⟨?_, .str _, H4, I5.tok _, ⟨_, rfl⟩, q⟩
  show (z.cps.toList.reverse.toArray).size ≤ sizeLine
  simpa [Str.length] using hz
section
variable {K : PySem.W.Frag} {Γ : List Cell} {te : TE} {i : Nat} {P : Prop}
theorem hf_revp {w : Tx} (u : Unit) (h : HF K te Γ (.ok w)) : HF K (tRevS te) Γ (.ok w.reverse) := .mk fun X Q E q => h.run X _ E fun ok => ⟨mkS w, rfl, by rw [mkS_len, ← line_eq]; exact ok, by
  rw [mkS_list]
  exact q (by show w.reverse.length ≤ line; rw [List.length_reverse]; exact ok)⟩
theorem hf_revm {m : Res Tx} (u : Tx → Unit) (h : HF K te Γ m) : HF K (tRevS te) Γ (m.bind fun w => .ok w.reverse) := .mk fun X Q E q => h.run X _ E (wpb q fun w q ok => ⟨mkS w, rfl, by rw [mkS_len, ← line_eq]; exact ok, by
  rw [mkS_list]
  exact q (by show w.reverse.length ≤ line; rw [List.length_reverse]; exact ok)⟩)
def tTrq (K : PySem.W.Frag) (te : TE) : TT := fun σ H Q => te σ H fun x H' => ∃ k, TruV K x H' k ∧ Q k H'
theorem ht_truT_p {w : Tx} (h : HF K te Γ (.ok w)) : HT K (tTrq K te) Γ (.ok (!w.isEmpty)) := .mk fun X Q E q => h.run X _ E fun ok => ⟨!w.isEmpty, ⟨by rw [mkS_len, ← line_eq]; exact ok, by rw [mkS_len]; cases w <;> simp <;> omega⟩, q⟩
theorem ht_truT_m {m : Res Tx} (h : HF K te Γ m) : HT K (tTrq K te) Γ (m.bind fun w => .ok (!w.isEmpty)) := .mk fun X Q E q => h.run X _ E (wpb q fun w q ok => ⟨!w.isEmpty, ⟨by rw [mkS_len, ← line_eq]; exact ok, by rw [mkS_len]; cases w <;> simp <;> omega⟩, q⟩)
/-! isinstance of what is known, a built-in class -/
def tIsi (K : PySem.W.Frag) (i : Nat) (T : String) : TE := tCB (rIsi K) (tCons (tVar i) (tCons (tC (.ty T)) tNil))
section
variable {T : String} {b : Bool}
theorem hf_isI {n : Int} (hΓ : Γ[i]? = some (.im n)) (e : ∀ K, PySem.W.kitOne K (.type "int") (.type T) = some b) : HF K (tIsi K i T) Γ (.ok b) := .mk fun X Q E q => ⟨_, (E.sca hΓ).1, _, _, _, _, b, rfl, .ty T, .base (.int n), e K, q trivial⟩
theorem hf_isB {n : Bool} (hΓ : Γ[i]? = some (.im n)) (e : ∀ K, PySem.W.kitOne K (.type "bool") (.type T) = some b) : HF K (tIsi K i T) Γ (.ok b) := .mk fun X Q E q => ⟨_, (E.sca hΓ).1, _, _, _, _, b, rfl, .ty T, .base (.bl n), e K, q trivial⟩
theorem hf_isT {n : Tx} (hΓ : Γ[i]? = some (.im n)) (e : ∀ K, PySem.W.kitOne K (.type "str") (.type T) = some b) : HF K (tIsi K i T) Γ (.ok b) := .mk fun X Q E q => ⟨_, (E.sca hΓ).1, _, _, _, _, b, rfl, .ty T, .base (.str _), e K, q trivial⟩
theorem hf_isL {α : Type} [Rep α] {xs : List α} (hΓ : Γ[i]? = some (.im xs)) (e : ∀ K, PySem.W.kitOne K (.type "list") (.type T) = some b) : HF K (tIsi K i T) Γ (.ok b) := .mk fun X Q E q => by
  obtain ⟨a, vs, hs, ha, _⟩ := E.listAt hΓ
  exact ⟨_, hs, _, _, _, _, b, rfl, .ty T, .base (.lst ha), e K, q trivial⟩
theorem hf_isLO {α : Type} [Rep α] {xs : List α} {pn : Option V} (hΓ : Γ[i]? = some (.own xs pn)) (e : ∀ K, PySem.W.kitOne K (.type "list") (.type T) = some b) : HF K (tIsi K i T) Γ (.ok b) := .mk fun X Q E q => by
  obtain ⟨a, vs, hs, ha, _⟩ := E.ownAt' hΓ
  exact ⟨_, hs, _, _, _, _, b, rfl, .ty T, .base (.lst ha), e K, q trivial⟩
end
end
end M
namespace M
open PySem PySem.Spec PyProof.Rows L2
/-! ### == of data -/
class Dat (α : Type) [Rep α] [DecidableEq α] where
  toD : α → PyData
  dp : ∀ {K : PySem.W.Frag} {I : Hp} {v : V} {x : α}, Rep.rp K I v x → Dp K I v (toD x)
  eq : ∀ x y : α, PyData.eqv (toD x) (toD y) = decide (x = y)
  dep : Nat
  depth : ∀ x : α, (toD x).depth ≤ dep
instance datInt : Dat Int := ⟨.int, fun {_ _ v x} h => by
  have h : v = V.int x ∧ True := h
  rw [h.1]; exact .int x, fun x y => by
  show (x == y) = _
  by_cases e : x = y <;> simp [e], 0, fun _ => Nat.le_refl _⟩
instance datBool : Dat Bool := ⟨.bool, fun {_ _ v x} h => by
  have h : v = V.bl x ∧ True := h
  rw [h.1]; exact .bl x, fun x y => by
  show (x == y) = _
  by_cases e : x = y <;> simp [e], 0, fun _ => Nat.le_refl _⟩
theorem mkS_beq (x y : Tx) : (mkS x == mkS y) = decide (x = y) := by
  by_cases e : x = y
  · subst e; simp
  · rw [decide_eq_false e]
    exact beq_eq_false_iff_ne.mpr fun q => e (mkS_inj q)
instance datTx : Dat Tx := ⟨fun w => .str (mkS w), fun {_ _ v x} h => by
  have h : v = V.str (mkS x) ∧ _ := h
  rw [h.1]; exact .str _, fun x y => mkS_beq x y, 0, fun _ => Nat.le_refl _⟩
section
variable {α β : Type} [Rep α] [DecidableEq α] [Dat α] [Rep β] [DecidableEq β] [Dat β]
theorem dpAll {K : PySem.W.Frag} {I : Hp} : ∀ {vs : List V} {xs : List α}, Paired (fun v x => Rep.rp K I v x) vs xs → DpAll K I vs (xs.map Dat.toD)
  | _, _, .nil => .nil
  | _, _, .cons r t => .cons (Dat.dp r) (dpAll t)
theorem eqvAll : ∀ xs ys : List α, PyData.eqvAll (xs.map Dat.toD) (ys.map Dat.toD) = decide (xs = ys)
  | [], [] => rfl
  | [], y :: ys => rfl
  | x :: xs, [] => rfl
  | x :: xs, y :: ys => by
    show (PyData.eqv (Dat.toD x) (Dat.toD y) && PyData.eqvAll (xs.map Dat.toD) (ys.map Dat.toD)) = _
    rw [Dat.eq, eqvAll xs ys]
    by_cases e : x = y <;> by_cases e2 : xs = ys <;> simp [e, e2]
theorem depthAll (xs : List α) : PyData.depthAll (xs.map Dat.toD) ≤ Dat.dep α := by
  induction xs with
  | nil => exact Nat.zero_le _
  | cons x xs ih =>
    show max (PyData.depth (Dat.toD x)) (PyData.depthAll (xs.map Dat.toD)) ≤ _
    exact Nat.max_le.mpr ⟨Dat.depth x, ih⟩
instance datList : Dat (List α) := ⟨fun xs => .list (xs.map Dat.toD), fun {K I v x} h => by
  obtain ⟨a, vs, rfl, hq, p⟩ := h
  exact .lst (SqL.of hq) (dpAll p), fun x y => eqvAll x y, Dat.dep α + 1, fun x => Nat.succ_le_succ (depthAll x)⟩
instance : DecidableEq (TupL α) := fun x y => decidable_of_iff (x.l = y.l) ⟨fun h => by cases x; cases y; simpa using h, fun h => by rw [h]⟩
instance datTupL : Dat (TupL α) := ⟨fun xs => .tuple (xs.l.map Dat.toD), fun {K I v x} h => by
  obtain ⟨a, vs, rfl, hq, p⟩ := h
  exact .tup hq (dpAll p), fun x y => by
  refine (eqvAll x.l y.l).trans ?_
  by_cases e : x.l = y.l
  · have : x = y := by cases x; cases y; simpa using e
    simp [this]
  · have : x ≠ y := fun z => e (by rw [z])
    simp [e, this], Dat.dep α + 1, fun x => Nat.succ_le_succ (depthAll x.l)⟩
instance datPair : Dat (α × β) := ⟨fun x => .tuple [Dat.toD x.1, Dat.toD x.2], fun {K I v x} h => by
  obtain ⟨a, v1, v2, rfl, hq, p1, p2⟩ := h
  exact .tup hq (.cons (Dat.dp p1) (.cons (Dat.dp p2) .nil)), fun x y => by
  show (PyData.eqv (Dat.toD x.1) (Dat.toD y.1) && (PyData.eqv (Dat.toD x.2) (Dat.toD y.2) && true)) = _
  rw [Dat.eq, Dat.eq]
  obtain ⟨x1, x2⟩ := x
  obtain ⟨y1, y2⟩ := y
  by_cases e : x1 = y1 <;> by_cases e2 : x2 = y2 <;> simp [e, e2], max (Dat.dep α) (Dat.dep β) + 1, fun x => by
  show max (PyData.depth (Dat.toD x.1)) (max (PyData.depth (Dat.toD x.2)) 0) + 1 ≤ _
  have h1 := Dat.depth x.1
  have h2 := Dat.depth x.2
  omega⟩
end
/-- == of data; texts with codes that no sign has are none -/
def eqD {α : Type} [Rep α] [DecidableEq α] [Dat α] (x y : α) : Res Bool := if (PyData.canLay0 (Dat.toD x) && PyData.canLay0 (Dat.toD y)) = true then .ok (decide (x = y)) else .bad
def neD {α : Type} [Rep α] [DecidableEq α] [Dat α] (x y : α) : Res Bool := if (PyData.canLay0 (Dat.toD x) && PyData.canLay0 (Dat.toD y)) = true then .ok (!decide (x = y)) else .bad
theorem lay_ints (xs : List Int) : PyData.canLay0 (Dat.toD xs) = true := by
  show PyData.canLayAll0 (xs.map Dat.toD) = true
  induction xs with
  | nil => rfl
  | cons x xs ih =>
    show (PyData.canLay0 (.int x) && PyData.canLayAll0 (xs.map Dat.toD)) = true
    rw [ih]; rfl
@[simp] theorem eqD_ints (x y : List Int) : eqD x y = .ok (decide (x = y)) := by
  unfold eqD
  rw [lay_ints, lay_ints]
  rfl
@[simp] theorem neD_ints (x y : List Int) : neD x y = .ok (!decide (x = y)) := by
  unfold neD
  rw [lay_ints, lay_ints]
  rfl
section
variable {K : PySem.W.Frag} {mg : Str → Option Value} {I H I' H' : Hp} {σ σ' ρ : List (Option V)} {Γ Γ' Θ : List Cell} {i j n : Nat} {v v0 v1 v2 v3 : V} {c c1 c2 c3 c4 : Cell} {o1 o2 o3 o4 : Option V} {te tl ti : TE} {ta : TA} {tt : TT} {t u : TS} {dn db dc : L2.St → Hp → Prop} {dr : VK} {Q : VK} {W : WX}
variable {pn : Option V} {ω : Type} {P : ω → Prop} {X : Exn → Prop} {α β γ δ : Type}
theorem shp [Rep α] [DecidableEq α] [Dat α] {x : α} (h : PyData.canLay0 (Dat.toD x) = true) (hd : Dat.dep α ≤ 64) : SeqAt.shaped (Dat.toD x) = true := by
  unfold SeqAt.shaped
  rw [h, Bool.true_and]
  exact decide_eq_true (Nat.le_trans (Dat.depth x) hd)
theorem st_eqD [Rep α] [DecidableEq α] [Dat α] {x y : α} {k : Bool → Res ω} (E : Env K I H σ Γ (some v2 :: some v1 :: ρ) (.im y :: .im x :: Θ)) (hd : Dat.dep α ≤ 64) (h : wp ((eqD x y).bind k) P X)
    (next : ∀ b v, Env K I H σ Γ (some v :: ρ) (.im b :: Θ) → wp (k b) P X → Q v H) : OpG (rEqD K) v1 v2 H Q := by
  unfold eqD at h
  split at h
  · rename_i hb
    have hb := (Bool.and_eq_true _ _).mp hb
    refine ⟨_, _, Dat.dp (Rep.mono E.same E.pop.topR), Dat.dp (Rep.mono E.same E.topR), shp hb.1 hd, shp hb.2 hd, ?_⟩
    rw [Dat.eq]
    exact next _ _ (E.pop.pop.pushS (a := decide (x = y)) trivial) h
  · exact h.elim
theorem st_neD [Rep α] [DecidableEq α] [Dat α] {x y : α} {k : Bool → Res ω} (E : Env K I H σ Γ (some v2 :: some v1 :: ρ) (.im y :: .im x :: Θ)) (hd : Dat.dep α ≤ 64) (h : wp ((neD x y).bind k) P X)
    (next : ∀ b v, Env K I H σ Γ (some v :: ρ) (.im b :: Θ) → wp (k b) P X → Q v H) : OpG (rNeD K) v1 v2 H Q := by
  unfold neD at h
  split at h
  · rename_i hb
    have hb := (Bool.and_eq_true _ _).mp hb
    refine ⟨_, _, Dat.dp (Rep.mono E.same E.pop.topR), Dat.dp (Rep.mono E.same E.topR), shp hb.1 hd, shp hb.2 hd, ?_⟩
    rw [Dat.eq]
    exact next _ _ (E.pop.pop.pushS (a := !decide (x = y)) trivial) h
  · exact h.elim
/-- an owned list against [] -/
theorem paired_dp0 {K : PySem.W.Frag} {H : Hp} {p : Addr} (hp : H p = some (.lst [])) : Dp K H (.ref p) (.list []) := .lst (SqL.of hp) .nil
theorem st_eqOnil [Sca α] [DecidableEq α] [Dat α] {xs : List α} (E : Env K I H σ Γ ρ Θ) (hΓ : Γ[i]? = some (.own xs pn)) (hl : PyData.canLay0 (Dat.toD xs) = true) (hd : Dat.dep (List α) ≤ 64)
    (next : ∀ H' v, Env K I H' σ Γ (some v :: ρ) (.im (List.isEmpty xs) :: Θ) → Q v H') : tOp (rEqD K) (tVar i) (tLst tNil) σ H Q := by
  obtain ⟨p, vs, hs, hp, _, r, _⟩ := E.ownAt hΓ
  refine ⟨_, hs, Nat.zero_le _, fun q hq => ?_⟩
  have hpq : p ≠ q := fun e => by rw [e, hq] at hp; cases hp
  have E' : Env K I (upd H q (.lst [])) σ Γ ρ Θ := E.grow (Grow.newH E.same hq)
  have rp : Rep.rp K (upd I p (.lst vs)) (.ref p) xs := ⟨p, vs, rfl, upd_same, Paired.monoR (fun _ _ z => z) r⟩
  have d1 : Dp K (upd H q (.lst [])) (.ref p) (Dat.toD xs) := Dat.dp (α := List α) ⟨p, vs, rfl, by rw [upd_ne hpq]; exact hp, Paired.monoR (fun _ _ z => z) r⟩
  refine ⟨_, _, d1, paired_dp0 upd_same, shp hl hd, by decide, ?_⟩
  have e : PyData.eqv (Dat.toD xs) (.list []) = List.isEmpty xs := by
    cases xs with
    | nil => rfl
    | cons x xs => rfl
  rw [e]
  exact next _ _ (E'.pushS trivial)
theorem st_neOnil [Sca α] [DecidableEq α] [Dat α] {xs : List α} (E : Env K I H σ Γ ρ Θ) (hΓ : Γ[i]? = some (.own xs pn)) (hl : PyData.canLay0 (Dat.toD xs) = true) (hd : Dat.dep (List α) ≤ 64)
    (next : ∀ H' v, Env K I H' σ Γ (some v :: ρ) (.im (!List.isEmpty xs) :: Θ) → Q v H') : tOp (rNeD K) (tVar i) (tLst tNil) σ H Q := by
  obtain ⟨p, vs, hs, hp, _, r, _⟩ := E.ownAt hΓ
  refine ⟨_, hs, Nat.zero_le _, fun q hq => ?_⟩
  have hpq : p ≠ q := fun e => by rw [e, hq] at hp; cases hp
  have E' : Env K I (upd H q (.lst [])) σ Γ ρ Θ := E.grow (Grow.newH E.same hq)
  have d1 : Dp K (upd H q (.lst [])) (.ref p) (Dat.toD xs) := Dat.dp (α := List α) ⟨p, vs, rfl, by rw [upd_ne hpq]; exact hp, Paired.monoR (fun _ _ z => z) r⟩
  refine ⟨_, _, d1, paired_dp0 upd_same, shp hl hd, by decide, ?_⟩
  have e : PyData.eqv (Dat.toD xs) (.list []) = List.isEmpty xs := by
    cases xs with
    | nil => rfl
    | cons x xs => rfl
  rw [e]
  exact next _ _ (E'.pushS trivial)
/-! ### tests -/
theorem st_htp {b : Bool} {Q : Bool → Hp → Prop} (E : Env K I H σ Γ ρ Θ) (ht : HT K tt Γ (.ok b)) (next : Q b H) : tt σ H Q := ht.run (fun _ => False) Q E next
theorem st_htm {m : Res Bool} {k : Bool → Res ω} {Q : Bool → Hp → Prop} (E : Env K I H σ Γ ρ Θ) (ht : HT K tt Γ m) (h : wp (m.bind k) P X) (next : ∀ b, wp (k b) P X → Q b H) : tt σ H Q := ht.run X Q E (wpb h next)
theorem st_notV {b : Bool} (E : Env K I H σ Γ (some v :: ρ) (.im b :: Θ)) (next : ∀ v, Env K I H σ Γ (some v :: ρ) (.im (!b) :: Θ) → Q v H) : NotG v H Q := by
  obtain ⟨e, _⟩ := E.topS
  exact ⟨b, e, next _ (E.pop.pushS (a := !b) trivial)⟩
theorem st_vb {b : Bool} {Q : Bool → Prop} (E : Env K I H σ Γ (some v :: ρ) (.im b :: Θ)) (next : Env K I H σ Γ ρ Θ → Q b) : ∃ k, v = .bl k ∧ Q k := by
  obtain ⟨e, _⟩ := E.topS
  exact ⟨b, e, next E.pop⟩
/-! ### calls that let nothing out -/
def noX (m : Res α) : Res α := match m with | .ok a => .ok a | .exc _ => .bad | .bad => .bad
theorem wp_noX {m : Res α} {P : α → Prop} {X Y : Exn → Prop} (h : wp (noX m) P X) : wp m P Y := by
  cases m with
  | ok a => exact h
  | exc e => exact h.elim
  | bad => exact h
theorem wp_noX_bind {m : Res α} {k : α → Res ω} {Y : Exn → Prop} (h : wp ((noX m).bind k) P X) : wp m (fun a => wp (k a) P X) Y := wp_noX (wp_bind.mp h)
theorem st_callX {A B : Type} {cells : A → List Cell} {m : A → Res B} {oc : B → Cell} {vs : List V} {EX : XK} (a : A) {k : B → Res ω} (E : Env K I H σ Γ ((vs.map some).reverse ++ ρ) ((cells a).reverse ++ Θ)) (hn : vs.length = n) (hc : (cells a).length = n)
    (h : wp ((noX (m a)).bind k) P X)
    (next : ∀ b I' H' v, Env K I' H' σ Γ (some v :: ρ) (oc b :: Θ) → wp (k b) P X → Q v H') : SpM K mg n cells m oc vs H Q EX := by
  refine ⟨hn, a, I, σ ++ ρ, Γ ++ Θ, E.enter (by rw [List.length_map, hn, hc]), ?_⟩
  have h2 := wp_noX_bind (Y := fun _ => False) h
  exact wp_mono h2 (fun b q I' H' v E' => next b I' H' v (E'.leave E.1) q) fun e x => x.elim
theorem st_callOX {S A B : Type} [Own S] {cells : A → List Cell} {m : S → A → Res (B × S)} {oc : B → Cell} {vs : List V} {s : S} (a : A) {k : B × S → Res ω} (hΓ : Γ[i]? = some (.own s pn)) (h0 : σ[i]? = some (some v0))
    (E : Env K I H σ Γ ((vs.map some).reverse ++ ρ) ((cells a).reverse ++ Θ)) (hn : vs.length = n) (hc : (cells a).length = n)
    (h : wp ((noX (m s a)).bind k) P X)
    (next : ∀ b I' H' v, Env K I' H' σ (Γ.set i (.own b.2 pn)) (some v :: ρ) (oc b.1 :: Θ) → wp (k b) P X → Q v H') : SpO K mg n cells m oc (v0 :: vs) H Q (WE W σ) :=
  st_callO' a hΓ h0 E hn hc (wp_noX_bind (Y := fun _ => False) h) (fun e x => x.elim) next
end
end M
namespace M
open PySem PySem.Spec PyProof.Rows L2
def lSet {α : Type} (xs : List α) (i : Int) (y : α) : Res (List α) := match ixN xs.length i with | some k => .ok (xs.set k y) | none => .bad
def lPop {α : Type} (xs : List α) : Res (α × List α) := match xs[xs.length - 1]? with | some y => .ok (y, xs.dropLast) | none => .bad
noncomputable def lPopAt {α : Type} (xs : List α) (i : Int) : Res (α × List α) := clo (if -(2 ^ 63) ≤ i ∧ i < 2 ^ 63 then match seqIndex? i xs.length with
  | some k => (match xs[k]? with | some y => .ok (y, xs.eraseIdx k) | none => .bad)
  | none => .bad else .bad)
theorem paired_set {α : Type} {f : V → α → Prop} {v : V} {y : α} (r : f v y) : ∀ {vs : List V} {xs : List α} {k : Nat}, Paired f vs xs → Paired f (vs.set k v) (xs.set k y)
  | _, _, _, .nil => .nil
  | _, _, 0, .cons _ t => .cons r t
  | _, _, k + 1, .cons q t => .cons q (paired_set r t)
theorem paired_erase {α : Type} {f : V → α → Prop} : ∀ {vs : List V} {xs : List α} {k : Nat}, Paired f vs xs → Paired f (vs.eraseIdx k) (xs.eraseIdx k)
  | _, _, _, .nil => .nil
  | _, _, 0, .cons _ t => t
  | _, _, k + 1, .cons q t => .cons q (paired_erase t)
theorem paired_dropLast {α : Type} {f : V → α → Prop} : ∀ {vs : List V} {xs : List α}, Paired f vs xs → Paired f vs.dropLast xs.dropLast
  | _, _, .nil => .nil
  | _, _, .cons q .nil => .nil
  | _, _, .cons q (.cons r t) => .cons q (paired_dropLast (.cons r t))
section
variable {K : PySem.W.Frag} {mg : Str → Option Value} {I H I' H' : Hp} {σ σ' ρ : List (Option V)} {Γ Θ : List Cell} {i j n : Nat} {v v0 v1 v2 v3 : V} {c c1 c2 c3 c4 c5 c6 : Cell} {o1 o2 o3 o4 o5 o6 : Option V} {te tl ti : TE} {ta : TA} {tt : TT} {t u : TS} {dn db dc : L2.St → Hp → Prop} {dr : VK} {Q : VK} {W : WX}
variable {pn : Option V} {ω : Type} {P : ω → Prop} {X : Exn → Prop} {α β γ δ : Type}
theorem Env.sw0 (E : Env K I H σ Γ (o1 :: o2 :: ρ) (c1 :: c2 :: Θ)) : Env K I H σ Γ (o2 :: o1 :: ρ) (c2 :: c1 :: Θ) := E.swap
theorem Env.sw1 (E : Env K I H σ Γ (o1 :: o2 :: o3 :: ρ) (c1 :: c2 :: c3 :: Θ)) : Env K I H σ Γ (o1 :: o3 :: o2 :: ρ) (c1 :: c3 :: c2 :: Θ) :=
  E.sperm (by have := E.2.1; simpa using this) ((List.Perm.swap _ _ _).cons _)
theorem Env.sw2 (E : Env K I H σ Γ (o1 :: o2 :: o3 :: o4 :: ρ) (c1 :: c2 :: c3 :: c4 :: Θ)) : Env K I H σ Γ (o1 :: o2 :: o4 :: o3 :: ρ) (c1 :: c2 :: c4 :: c3 :: Θ) :=
  E.sperm (by have := E.2.1; simpa using this) (((List.Perm.swap _ _ _).cons _).cons _)
theorem Env.sw3 (E : Env K I H σ Γ (o1 :: o2 :: o3 :: o4 :: o5 :: ρ) (c1 :: c2 :: c3 :: c4 :: c5 :: Θ)) : Env K I H σ Γ (o1 :: o2 :: o3 :: o5 :: o4 :: ρ) (c1 :: c2 :: c3 :: c5 :: c4 :: Θ) :=
  E.sperm (by have := E.2.1; simpa using this) ((((List.Perm.swap _ _ _).cons _).cons _).cons _)
theorem Env.sw4 (E : Env K I H σ Γ (o1 :: o2 :: o3 :: o4 :: o5 :: o6 :: ρ) (c1 :: c2 :: c3 :: c4 :: c5 :: c6 :: Θ)) : Env K I H σ Γ (o1 :: o2 :: o3 :: o4 :: o6 :: o5 :: ρ) (c1 :: c2 :: c3 :: c4 :: c6 :: c5 :: Θ) :=
  E.sperm (by have := E.2.1; simpa using this) (((((List.Perm.swap _ _ _).cons _).cons _).cons _).cons _)
/-- script[lo:hi] -/
theorem st_cutScr {xs : Scr} {tl th : TO} {lo hi : Option Int} {k : List Int → Res ω} (E : Env K I H σ Γ (some v :: ρ) (.im xs :: Θ)) (hl : HSl K tl Γ (.ok lo)) (hh : HSl K th Γ (.ok hi)) (h : wp ((Res.ok (cutL xs.l lo hi)).bind k) P X)
    (next : ∀ ys I' H' v, Env K I' H' σ Γ (some v :: ρ) (.im ys :: Θ) → wp (k ys) P X → Q v H') : tl σ H fun l H2 => th σ H2 fun u H3 => rSlL K v l u H3 Q :=
  hl.run (fun _ => False) _ E (hh.run (fun _ => False) _ E (by
    obtain ⟨a, e, hq⟩ := E.topR
    subst e
    have pr : ∀ xs : List Int, Paired (fun v x => Rep.rp K I v x) (xs.map V.int) xs := fun xs => by
      induction xs with
      | nil => exact .nil
      | cons x xs ih => exact .cons ⟨rfl, trivial⟩ ih
    exact ⟨a, _, rfl, E.same.seq hq, st_newI (Env.pop E) (cut_paired (pr xs.l) lo hi) fun I' H' v E' => next _ I' H' v E' h⟩))
theorem st_augp {a b : Int} {f : Int → Int → Int} {k : Int → Res ω} (E : Env K I H σ Γ ρ Θ) (hΓ : Γ[i]? = some (.im a)) (ht : HF K te Γ (.ok b)) (h : wp ((Res.ok (f a b)).bind k) P X) (hi : i < Γ.length)
    (next : ∀ x σ', Env K I H σ' (Γ.set i (.im x)) ρ Θ → wp (k x) P X → dn σ' H) : tAug i te (ipI f) ⟨dn, dr, db, dc⟩ σ H :=
  ⟨_, (E.sca hΓ).1, ht.run (fun _ => False) _ E fun _ => ⟨a, b, rfl, rfl, next _ _ (E.setS (a := f a b) trivial hi rfl) h⟩⟩
theorem st_augm {a : Int} {m : Res Int} {f : Int → Int → Int} {k : Int → Res ω} (E : Env K I H σ Γ ρ Θ) (hΓ : Γ[i]? = some (.im a)) (ht : HF K te Γ m) (h : wp ((m.bind fun b => .ok (f a b)).bind k) P X) (hi : i < Γ.length)
    (next : ∀ x σ', Env K I H σ' (Γ.set i (.im x)) ρ Θ → wp (k x) P X → dn σ' H) : tAug i te (ipI f) ⟨dn, dr, db, dc⟩ σ H :=
  ⟨_, (E.sca hΓ).1, ht.run X _ E (by
    rw [Res.bind_assoc] at h
    exact wpb h fun b h _ => ⟨a, b, rfl, rfl, next _ _ (E.setS (a := f a b) trivial hi rfl) h⟩)⟩
/-- xs[i] = y, y on the stack -/
theorem st_setLm [Rep α] {xs : List α} {y : α} {m : Res Int} {k : List α → Res ω} {Γ' : List α → List Cell} {dn : L2.St → Hp → Prop} (E : Env K I H σ Γ (some v :: ρ) (.im y :: Θ)) (hΓ : Γ[i]? = some (.own xs pn)) (ht : HF K ti Γ m) (h : wp (m.bind fun j => (lSet xs j y).bind k) P X)
    (hs : ∀ x, Γ.set i (.own x pn) = Γ' x) (next : ∀ ys H', Env K I H' σ (Γ' ys) ρ Θ → wp (k ys) P X → dn σ H') : gSub (tVar i) ti rSetL v σ H dn := by
  obtain ⟨p, vs, hs1, hp, _, q, ch, _⟩ := E.ownAt hΓ
  refine ⟨_, hs1, ht.run X _ E (wpb h fun j h _ => ?_)⟩
  unfold lSet at h
  cases e : ixN xs.length j with
  | none => rw [e] at h; exact h.elim
  | some n =>
    rw [e] at h
    refine ⟨p, vs, j, n, rfl, rfl, hp, by rw [Paired.length q]; exact e, ?_⟩
    have z := (ch (Grow.refl E.same) _ _ (paired_set E.topR (k := n) q)).pop
    rw [hs] at z
    exact next _ _ z h
theorem st_setLp [Rep α] {xs : List α} {y : α} {j : Int} {k : List α → Res ω} {Γ' : List α → List Cell} {dn : L2.St → Hp → Prop} (E : Env K I H σ Γ (some v :: ρ) (.im y :: Θ)) (hΓ : Γ[i]? = some (.own xs pn)) (ht : HF K ti Γ (.ok j)) (h : wp ((lSet xs j y).bind k) P X)
    (hs : ∀ x, Γ.set i (.own x pn) = Γ' x) (next : ∀ ys H', Env K I H' σ (Γ' ys) ρ Θ → wp (k ys) P X → dn σ H') : gSub (tVar i) ti rSetL v σ H dn := st_setLm E hΓ ht h hs next
/-- a name for what is on the stack -/
theorem st_name [Rep α] {a : α} {k : α → Res ω} {A : Prop} (E : Env K I H σ Γ ρ (.im a :: Θ)) (h : wp ((Res.ok a).bind k) P X) (next : ∀ x, Env K I H σ Γ ρ (.im x :: Θ) → wp (k x) P X → A) : A := next a E h
theorem st_nameO [Own α] {a : α} {k : α → Res ω} {A : Prop} (E : Env K I H σ Γ ρ (.own a pn :: Θ)) (h : wp ((Res.ok a).bind k) P X) (next : ∀ x, Env K I H σ Γ ρ (.own x pn :: Θ) → wp (k x) P X → A) : A := next a E h
end
/-! ### heads, opened -/
section
variable {K : PySem.W.Frag} {σ : L2.St} {H : Hp} {Q : VK} {B : Bool → Hp → Prop} {te ta tb ti : TE} {tt tu : TT} {t tk : TA} {tl th : TO} {r : R2} {ru : V → Hp → VK → Prop} {rc : List V → Hp → VK → Prop} {rs : V → Option Int → Option Int → Hp → VK → Prop} {A : List V → Hp → Prop} {dn db dc : L2.St → Hp → Prop} {dr : VK} {s1 s2 : TS} {g : TG} {sp : Sp} {E : L2.St → XK} {R : It → Hp → Prop}
theorem uOp (h : ta σ H fun x H1 => tb σ H1 fun y H2 => OpG r x y H2 Q) : tOp r ta tb σ H Q := h
theorem uUn (h : ta σ H fun x H1 => UnG ru x H1 Q) : tUn ru ta σ H Q := h
theorem uCB (h : t σ H fun vs H1 => CbG rc vs H1 Q) : tCB rc t σ H Q := h
theorem uCons (h : ta σ H fun x H1 => t σ H1 fun xs H2 => A (x :: xs) H2) : tCons ta t σ H A := h
theorem uNil (h : A [] H) : tNil σ H A := h
theorem uLst (h : t σ H fun xs H1 => LsG xs H1 Q) : tLst t σ H Q := h
theorem uSl (h : te σ H fun x H1 => tl σ H1 fun l H2 => th σ H2 fun u H3 => rs x l u H3 Q) : tSl rs te tl th σ H Q := h
theorem uCallS (h : t σ H fun vs H1 => sp vs H1 Q (E σ)) : tCallS sp E t σ H Q := h
theorem uCallKS {n m : Nat} {gV : List V → List V → List V} (h : t σ H fun vs H1 => tk σ H1 fun zs H2 => vs.length = n ∧ zs.length = m ∧ sp (gV vs zs) H2 Q (E σ)) : tCallKS n m sp gV E t tk σ H Q := h
theorem uAndV (h : ta σ H fun x H1 => ∃ c, x = .bl c ∧ if c = true then tb σ H1 Q else Q (.bl false) H1) : tAndV ta tb σ H Q := h
theorem uOrV (h : ta σ H fun x H1 => ∃ c, x = .bl c ∧ if c = true then Q (.bl true) H1 else tb σ H1 Q) : tOrV ta tb σ H Q := h
theorem uNotV (h : ta σ H fun x H1 => NotG x H1 Q) : tNotV ta σ H Q := h
theorem uTest (h : te σ H fun x H' => ∃ k, x = .bl k ∧ B k H') : tTest te σ H B := h
theorem uB (h : te σ H fun x H' => ∃ k, x = .bl k ∧ B k H') : tB te σ H B := h
theorem uNot (h : tt σ H fun c H1 => B (!c) H1) : tNot tt σ H B := h
theorem uAnd (h : tt σ H fun c H1 => if c = true then tu σ H1 B else B false H1) : tAnd tt tu σ H B := h
theorem uOr (h : tt σ H fun c H1 => if c = true then B true H1 else tu σ H1 B) : tOr tt tu σ H B := h
theorem uDrop (h : te σ H fun _ H1 => dn σ H1) : tDrop te ⟨dn, dr, db, dc⟩ σ H := h
theorem uAsg (h : te σ H fun x H1 => g x σ H1 dn) : tAsg te g ⟨dn, dr, db, dc⟩ σ H := h
theorem uRet (h : te σ H dr) : tRet te ⟨dn, dr, db, dc⟩ σ H := h
theorem uIf (h : tt σ H fun b H1 => if b = true then s1 ⟨dn, dr, db, dc⟩ σ H1 else s2 ⟨dn, dr, db, dc⟩ σ H1) : tIfS tt s1 s2 ⟨dn, dr, db, dc⟩ σ H := h
theorem uSeq (h : s1 ⟨s2 ⟨dn, dr, db, dc⟩, dr, db, dc⟩ σ H) : tSeq s1 s2 ⟨dn, dr, db, dc⟩ σ H := h
theorem uNext (h : dn σ H) : tNext ⟨dn, dr, db, dc⟩ σ H := h
theorem uFor {wi : TI} (h : wi σ H fun J H1 => ∃ W : Nat → Nat → L2.St → Hp → Prop, (∃ m, W 0 m σ H1) ∧ ∀ i m σ H, W i m σ H →
      (J.stop i H ∧ dn σ H) ∨ (J.go i H ∧ ∃ N : L2.St → Hp → Prop, (∀ σ' H', N σ' H' → ∃ m', m' < m ∧ W (i + 1) m' σ' H') ∧ ∀ x H', J.yld i H x H' → g x σ H' fun σ2 H2 => s1 ⟨N, dr, dn, N⟩ σ2 H2)) : tFor wi g s1 ⟨dn, dr, db, dc⟩ σ H := h
theorem uLc {wi : TI} {vs : List Nat} (h : wi σ H fun J H1 => LcG J g tt te vs σ H1 Q) : tLc wi g tt te vs σ H Q := h
theorem uList (h : te σ H fun x H1 => ∃ a, x = .ref a ∧ (∃ xs, SqL K H1 a xs) ∧ R (Itl K a) H1) : iList K te σ H R := h
theorem uTup (h : te σ H fun x H1 => ∃ a, x = .ref a ∧ (∃ xs, SqT K H1 a xs) ∧ R (Itt K a) H1) : iTup K te σ H R := h
end
end M
namespace M
open PySem PySem.Spec PyProof.Rows L2
/-! ### slices with bounds on the way -/
section
variable {K : PySem.W.Frag} {mg : Str → Option Value} {I I1 H I' H' : Hp} {σ σ' ρ : List (Option V)} {Γ Γ1 Θ : List Cell} {i j n : Nat} {v v0 v1 v2 v3 : V} {te tl ti : TE} {ta : TA} {tt : TT} {t u : TS} {to : TO} {dn db dc : L2.St → Hp → Prop} {dr : VK} {Q : VK} {W : WX}
variable {pn : Option V} {ω : Type} {P : ω → Prop} {X : Exn → Prop} {α β γ δ : Type}
theorem uPart {Q : Option Int → Hp → Prop} (h : te σ H fun x H1 => ∃ i, x = .int i ∧ Q (some i) H1) : tPart te σ H Q := h
theorem st_bd {i : Int} {Q : Int → Prop} (E : Env K I H σ Γ (some v :: ρ) (.im i :: Θ)) (next : Env K I H σ Γ ρ Θ → Q i) : ∃ i, v = .int i ∧ Q i := by
  obtain ⟨e, _⟩ := E.topS
  exact ⟨i, e, next E.pop⟩
theorem st_bdp {lo : Option Int} {Q : Option Int → Hp → Prop} (E : Env K I H σ Γ ρ Θ) (hl : HSl K to Γ (.ok lo)) (next : Q lo H) : to σ H Q := hl.run (fun _ => False) _ E next
theorem st_bdm {m : Res (Option Int)} {k : Option Int → Res ω} {Q : Option Int → Hp → Prop} (E : Env K I H σ Γ ρ Θ) (hl : HSl K to Γ m) (h : wp (m.bind k) P X) (next : ∀ lo, wp (k lo) P X → Q lo H) : to σ H Q := hl.run X _ E (wpb h next)
theorem st_slT {w : Tx} {lo hi : Option Int} (E : Env K I H σ Γ (some v :: ρ) (.im w :: Θ)) (next : ∀ v, Env K I H σ Γ (some v :: ρ) (.im (cutL w lo hi) :: Θ) → Q v H) : rSlS v lo hi H Q := by
  obtain ⟨e, ok⟩ := E.topS
  subst e
  have hh : HF K (tSl rSlS (tVar 0) (fun _ H Q => Q lo H) (fun _ H Q => Q hi H)) [.im w] (.ok (cutL w lo hi)) :=
    hf_cut_p (hf_var rfl) (.mk fun X Q E q => q) (.mk fun X Q E q => q)
  have q := hh.run (I := I) (H := H) (σ := [some (enc w)]) (ρ := []) (Θ := []) (fun _ => False) Q ⟨rfl, rfl, E.same, [[]], ⟨⟨rfl, _, rfl, rfl, ok⟩, trivial⟩, by simp, by simp⟩ fun ok => next _ (E.pop.pushS ok)
  obtain ⟨v', e1, q⟩ := q
  cases e1
  exact q
theorem st_slL [Rep α] {xs : List α} {lo hi : Option Int} (E : Env K I H σ Γ (some v :: ρ) (.im xs :: Θ)) (next : ∀ I' H' v, Env K I' H' σ Γ (some v :: ρ) (.im (cutL xs lo hi) :: Θ) → Q v H') : rSlL K v lo hi H Q := by
  obtain ⟨a, vs, e, ha, p⟩ := E.topR
  subst e
  exact ⟨a, vs, rfl, SqL.of (E.same _ _ ha), st_newI (Env.pop E) (cut_paired p lo hi) fun I' H' v E' => next I' H' v E'⟩
theorem st_slLO [Rep α] {xs : List α} {lo hi : Option Int} (E : Env K I H σ Γ (some v :: ρ) (.im xs :: Θ)) (next : ∀ H' v, Env K I H' σ Γ (some v :: ρ) (.own (cutL xs lo hi) :: Θ) → Q v H') : rSlL K v lo hi H Q := by
  obtain ⟨a, vs, e, ha, p⟩ := E.topR
  subst e
  exact ⟨a, vs, rfl, SqL.of (E.same _ _ ha), st_newO (Env.pop E) (cut_paired p lo hi) fun H' v E' => next H' v E'⟩
theorem ints_paired {K : PySem.W.Frag} {I : Hp} : ∀ xs : List Int, Paired (fun v x => Rep.rp K I v x) (xs.map V.int) xs
  | [] => .nil
  | _ :: xs => .cons ⟨rfl, trivial⟩ (ints_paired xs)
theorem st_slScr {xs : Scr} {lo hi : Option Int} (E : Env K I H σ Γ (some v :: ρ) (.im xs :: Θ)) (next : ∀ I' H' v, Env K I' H' σ Γ (some v :: ρ) (.im (cutL xs.l lo hi) :: Θ) → Q v H') : rSlL K v lo hi H Q := by
  obtain ⟨a, e, hq⟩ := E.topR
  subst e
  exact ⟨a, _, rfl, E.same.seq hq, st_newI (Env.pop E) (cut_paired (ints_paired xs.l) lo hi) fun I' H' v E' => next I' H' v E'⟩

/-! ### borrowing: owned lists are read by a call and stay owned -/
structure Snap where
  I : Hp
  H : Hp
  fp : List Addr
instance ownSnap : Own Snap where
  ow K fp I H v s := fp = s.fp ∧ Same s.I I ∧ ∀ b ∈ fp, H b = s.H b
  mono := fun e k ⟨e1, e2, e3⟩ => ⟨e1, e2.trans e, fun b hb => (k b hb).trans (e3 b hb)⟩
def noOwn (c : Cell) : Cell := match c with
  | .any => .any
  | @Cell.im α r a => @Cell.im α r a
  | @Cell.own _ _ _ _ => .any
theorem wk_noOwn : ∀ Γ : List Cell, Wk Γ (Γ.map noOwn)
  | [] => trivial
  | c :: Γ => ⟨by cases c <;> first | exact .inr rfl | exact .inl rfl, wk_noOwn Γ⟩
theorem Env.weakT (E : Env K I H σ Γ ρ Θ) {Θ' : List Cell} (w : Wk Θ Θ') : Env K I H σ Γ ρ Θ' := by
  have e0 : EnvL K I H (ρ.zip Θ ++ σ.zip Γ) := E.2.2.perm List.perm_append_comm
  obtain ⟨q, l⟩ := EnvL.weak E.2.1 w e0
  exact ⟨E.1, l, q.perm List.perm_append_comm⟩
theorem Ents.noOwn0 : ∀ {es : List Ent} {fs : List (List Addr)}, (∀ e ∈ es, e.2 = noOwn e.2) → Ents K I H es fs → fs.flatten = []
  | [], [], _, _ => rfl
  | [], _ :: _, _, h => h.elim
  | _ :: _, [], _, h => h.elim
  | (o, c) :: es, f :: fs, k, h => by
    have h1 := Ents.noOwn0 (fun e he => k e (List.mem_cons_of_mem _ he)) h.2
    have h2 := h.1
    have h3 := k (o, c) (by simp)
    rw [List.flatten_cons, h1]
    cases c with
    | any => rw [show f = [] from h2]; rfl
    | im a => rw [h2.1]; rfl
    | own a pn => exact absurd h3 (fun z => nomatch z)
/-- some lists are let be -/
structure LetS (I I1 : Hp) : Prop where
  same : Same I I1
  lst : ∀ a u, I1 a = some u → I a = some u ∨ ∃ vs, u = .lst vs
theorem LetS.trans {I I1 I2 : Hp} (s : LetS I I1) (t : LetS I1 I2) : LetS I I2 := ⟨s.same.trans t.same, fun a u e => by
  rcases t.lst a u e with h | h
  · exact s.lst a u h
  · exact .inr h⟩
theorem EnvL.snap {es es1 : List Ent} (h : EnvL K I H es) (h1 : EnvL K I1 H es1) (s : LetS I I1) (hn : ∀ e ∈ es1, e.2 = noOwn e.2) : ∃ S : Snap, EnvL K I1 H ((some V.non, .own S) :: es1) ∧
    (∀ {I' H' : Hp} {o : Option V} {r : List Ent}, EnvL K I' H' ((o, .own S) :: r) → EnvL K I H' es) ∧
    ∀ {I' H' : Hp} {o : Option V} {r : List Ent} {d : V} {fs : List (Str × V)}, EnvL K I' H' ((some d, .im (XD.mk fs)) :: (o, .own S) :: r) → ∃ I2, EnvL K I2 H' ((some d, .im (XD.mk fs)) :: es) := by
  obtain ⟨sm, fs, e1, e2, e3⟩ := h
  obtain ⟨sm1, fs1, d1, d2, d3⟩ := h1
  have f0 := Ents.noOwn0 hn d1
  classical
  refine ⟨⟨I1, H, fs.flatten.filter fun a => decide (I1 a = none)⟩, ⟨sm1, _ :: fs1, ⟨⟨V.non, rfl, (fun _ z => nomatch z), rfl, Same.refl _, fun _ _ => rfl⟩, d1⟩, ?_, ?_⟩, fun {I' H' o r} z => ?_, fun {I' H' o r d xs} z => ?_⟩
  · rw [List.flatten_cons, f0, List.append_nil]
    exact e2.filter _
  · intro a ha
    rw [List.flatten_cons, f0, List.append_nil] at ha
    have ha := List.mem_filter.mp ha
    exact ⟨by simpa using ha.2, (e3 a ha.1).2⟩
  · obtain ⟨t1, gs, t2, t3, t4⟩ := z
    cases gs with
    | nil => exact t2.elim
    | cons g gs =>
      obtain ⟨⟨w, _, _, q1, q2, q3⟩, _⟩ := t2
      have q1 : g = _ := q1
      have q2 : Same I1 I' := q2
      have hk : ∀ a ∈ fs.flatten, H' a = H a := fun a ha => by
        cases e : I1 a with
        | none => exact q3 a (by rw [q1]; exact List.mem_filter.mpr ⟨ha, by simpa using e⟩)
        | some u => rw [t1 a u (q2 a u e), sm1 a u e]
      refine ⟨fun a u e => t1 a u (q2 a u (s.same a u e)), fs, Ents.mono (Same.refl _) hk e1, e2, fun a ha => ⟨(e3 a ha).1, ?_⟩⟩
      rw [hk a ha]
      exact (e3 a ha).2
  · obtain ⟨t1, gs, t2, t3, t4⟩ := z
    cases gs with
    | nil => exact t2.elim
    | cons g0 gs =>
      cases gs with
      | nil => exact t2.2.elim
      | cons g gs =>
        obtain ⟨⟨hg0, v0, ev0, hx0⟩, ⟨w, _, _, q1, q2, q3⟩, _⟩ := t2
        have q1 : g = _ := q1
        have q2 : Same I1 I' := q2
        have ev0 : some d = some v0 := ev0
        cases ev0
        have hk : ∀ a ∈ fs.flatten, H' a = H a := fun a ha => by
          cases e : I1 a with
          | none => exact q3 a (by rw [q1]; exact List.mem_filter.mpr ⟨ha, by simpa using e⟩)
          | some u => rw [t1 a u (q2 a u e), sm1 a u e]
        have hx0 : XDr I' d xs := hx0
        rcases hx0 with hx0 | ⟨d', ed', hxd⟩
        · have b : EnvL K I H' es := ⟨fun a u e => t1 a u (q2 a u (s.same a u e)), fs, Ents.mono (Same.refl _) hk e1, e2, fun a ha => ⟨(e3 a ha).1, by rw [hk a ha]; exact (e3 a ha).2⟩⟩
          exact ⟨I, b.im (a := XD.mk xs) (.inl hx0)⟩
        subst ed'
        have hd' : H' d' = some (.xd xs) := t1 _ _ hxd
        have sI : Same I (upd I d' (.xd xs)) := fun a u e => by
          by_cases hd : a = d'
          · subst hd
            have z1 := t1 a u (q2 a u (s.same a u e))
            rw [hd'] at z1
            rw [upd_same, ← z1]
          · rw [upd_ne hd]; exact e
        have nd : ∀ a ∈ fs.flatten, a ≠ d' := fun a ha hd => by
          subst hd
          cases e : I1 a with
          | none =>
            have : I' a = none := (t4 a (by
              rw [List.flatten_cons, List.flatten_cons]
              refine List.mem_append_right _ (List.mem_append_left _ ?_)
              rw [q1]; exact List.mem_filter.mpr ⟨ha, by simpa using e⟩)).1
            rw [hxd] at this
            cases this
          | some u =>
            rcases s.lst a u e with h | ⟨vs, h⟩
            · rw [(e3 a ha).1] at h; cases h
            · have z1 := t1 a u (q2 a u e)
              rw [hd', h] at z1
              cases z1
        refine ⟨upd I d' (.xd xs), fun a u e => ?_, [] :: fs, ⟨⟨rfl, _, rfl, .inr ⟨d', rfl, upd_same⟩⟩, Ents.mono sI hk e1⟩, ?_, fun a ha => ?_⟩
        · by_cases hd : a = d'
          · subst hd
            rw [upd_same] at e
            rw [← e]; exact hd'
          · rw [upd_ne hd] at e
            exact t1 a u (q2 a u (s.same a u e))
        · exact e2
        · have ha : a ∈ fs.flatten := ha
          refine ⟨by rw [upd_ne (nd a ha)]; exact (e3 a ha).1, ?_⟩
          rw [hk a ha]
          exact (e3 a ha).2
theorem noOwn_idem (c : Cell) : noOwn c = noOwn (noOwn c) := by cases c <;> rfl
theorem zip_noOwn : ∀ {o : List (Option V)} {Γ : List Cell}, ∀ e ∈ o.zip (Γ.map noOwn), e.2 = noOwn e.2 := fun {o Γ} e he => by
  obtain ⟨o1, c1⟩ := e
  have := (List.of_mem_zip he).2
  obtain ⟨c, _, e2⟩ := List.mem_map.mp this
  rw [← e2]
  exact noOwn_idem c
/-- before such a call; E1: the same where what the call reads is let be -/
theorem Env.borrow (E : Env K I H σ Γ ρ Θ) (E1 : Env K I1 H σ Γ1 ρ Θ) (s : LetS I I1) : ∃ S : Snap, Env K I1 H σ (Γ1.map noOwn) (some V.non :: ρ) (.own S :: Θ.map noOwn) ∧
    (∀ {β : Type} [Sca β] {b : β} {I' H' : Hp} {v : V} {σ2 : List (Option V)} {Γ2 Θ2 : List Cell} {o : Option V} {ρ2 : List (Option V)}, Env K I' H' σ2 Γ2 (some v :: o :: ρ2) (.im b :: .own S :: Θ2) → Env K I H' σ Γ (some v :: ρ) (.im b :: Θ)) ∧
    (∀ {I' H' : Hp} {σ2 : List (Option V)} {Γ2 Θ2 : List Cell} {o : Option V} {ρ2 : List (Option V)} {d : V} {fs : List (Str × V)}, Env K I' H' σ2 Γ2 (some d :: o :: ρ2) (.im (XD.mk fs) :: .own S :: Θ2) → ∃ I2, Env K I2 H' σ Γ (some d :: ρ) (.im (XD.mk fs) :: Θ)) := by
  have E2 := (E1.weak (wk_noOwn Γ1)).weakT (wk_noOwn Θ)
  obtain ⟨S, a, b, b2⟩ := E.2.2.snap E2.2.2 s fun e he => by
    rcases List.mem_append.mp he with he | he
    · exact zip_noOwn e he
    · exact zip_noOwn e he
  refine ⟨S, E2.toStack a, fun {β _ b' I' H' v σ2 Γ2 Θ2 o ρ2} Z => ?_, fun {I' H' σ2 Γ2 Θ2 o ρ2 d fs} Z => ?_⟩
  · have z := b Z.pop.unstack
    have r := Z.topS
    have E3 : Env K I H' σ Γ ρ Θ := ⟨E.1, E.2.1, z⟩
    rw [r.1]
    exact E3.pushS r.2
  · have z0 : EnvL K I' H' ((some d, .im (XD.mk fs)) :: (o, .own S) :: (σ2.zip Γ2 ++ ρ2.zip Θ2)) := by
      refine Z.2.2.perm ?_
      show (σ2.zip Γ2 ++ ((some d, Cell.im (XD.mk fs)) :: (o, Cell.own S) :: ρ2.zip Θ2)).Perm _
      exact List.perm_middle.trans (List.Perm.cons _ List.perm_middle)
    obtain ⟨I2, z⟩ := b2 z0
    exact ⟨I2, E.1, by simp [E.2.1], z.perm List.perm_middle.symm⟩
/-- a slot is let be, what was is kept in mind -/
theorem Env.let [Rep α] {xs : List α} (E : Env K I H σ Γ ρ Θ) (hΓ : Γ[i]? = some (.own xs pn)) : ∃ I1, LetS I I1 ∧ Env K I1 H σ (Γ.set i (.im xs)) ρ Θ := by
  obtain ⟨p, vs, _, hp, pI, _, _, fz⟩ := E.ownAt hΓ
  refine ⟨_, ⟨fun a u e => ?_, fun a u e => ?_⟩, fz⟩
  · rw [upd_ne (ne_of_none e pI)]
    exact e
  · by_cases h : a = p
    · subst h
      rw [upd_same] at e
      exact .inr ⟨vs, (Option.some.inj e).symm⟩
    · rw [upd_ne h] at e
      exact .inl e
end
end M
namespace M
open PySem PySem.Spec PyProof.Rows L2
/-! ### a law's source of draws: [cells, seed, n] -/
structure Src where
  cells : List Int
  seed : Int
  n : Int
/-- its root alone -/
structure SrcH where
  q : Addr
  seed : Int
  n : Int
instance ownSrcH : Own SrcH where
  ow K fp I H v s := ∃ p, v = .ref p ∧ fp = [p] ∧ H p = some (.lst [.ref s.q, .int s.seed, .int s.n])
  mono := fun e k ⟨p, e1, e2, h⟩ => ⟨p, e1, e2, by subst e2; rw [k p (by simp)]; exact h⟩
instance ownSrc : Own Src where
  ow K fp I H v s := ∃ p q, v = .ref p ∧ fp = [p, q] ∧ H p = some (.lst [.ref q, .int s.seed, .int s.n]) ∧ H q = some (.lst (s.cells.map V.int))
  mono := fun e k ⟨p, q, e1, e2, h1, h2⟩ => ⟨p, q, e1, e2, by subst e2; rw [k p (by simp)]; exact h1, by subst e2; rw [k q (by simp)]; exact h2⟩
theorem ints_of {K : PySem.W.Frag} {I : Hp} : ∀ {vs : List V} {xs : List Int}, Paired (fun v x => Rep.rp K I v x) vs xs → vs = xs.map V.int
  | _, _, .nil => rfl
  | _, _, .cons r t => by
    have r' : _ = V.int _ ∧ True := r
    rw [r'.1, ints_of t]
    rfl
section
variable {K : PySem.W.Frag} {mg : Str → Option Value} {I I1 H I' H' : Hp} {σ σ' ρ : List (Option V)} {Γ Γ' Γ1 Θ : List Cell} {es : List Ent} {i j n : Nat} {v v0 v1 v2 v3 : V} {te tl ti : TE} {ta : TA} {tt : TT} {t u : TS} {to : TO} {dn db dc : L2.St → Hp → Prop} {dr : VK} {Q : VK} {W : WX}
variable {pn : Option V} {o : Option V} {ω : Type} {P : ω → Prop} {X : Exn → Prop} {α β γ δ : Type}
/-- taken apart -/
theorem EnvL.srcOpen {s : Src} (h : EnvL K I H ((o, .own s pn) :: es)) : ∃ q, EnvL K I H ((o, .own (⟨q, s.seed, s.n⟩ : SrcH) pn) :: (some (.ref q), .own s.cells (some (.ref q))) :: es) ∧ ∃ p, o = some (.ref p) ∧ H p = some (.lst [.ref q, .int s.seed, .int s.n]) := by
  obtain ⟨sm, fs, h1, h2, h3⟩ := h
  cases fs with
  | nil => exact h1.elim
  | cons f fs =>
    obtain ⟨⟨v, e1, e0, p, q, e2, e3, hp, hq⟩, h1⟩ := h1
    subst e3
    refine ⟨q, ⟨sm, [p] :: [q] :: fs, ⟨⟨v, e1, e0, p, e2, rfl, hp⟩, ⟨_, rfl, (fun w e => Option.some.inj e), q, _, rfl, rfl, hq, ints_paired _⟩, h1⟩, ?_, ?_⟩, p, ?_, hp⟩
    · exact h2
    · exact h3
    · have e1 : o = some v := e1
      rw [e1, e2]
/-- put together -/
theorem EnvL.srcClose {s : SrcH} {xs : List Int} {o2 : Option V} (h : EnvL K I H ((o, .own s pn) :: (o2, .own xs (some (.ref s.q))) :: es)) : EnvL K I H ((o, .own (⟨xs, s.seed, s.n⟩ : Src) pn) :: (o2, .any) :: es) := by
  obtain ⟨sm, fs, h1, h2, h3⟩ := h
  cases fs with
  | nil => exact h1.elim
  | cons f fs =>
    cases fs with
    | nil => exact h1.2.elim
    | cons g fs =>
      obtain ⟨⟨v, e1, e0, p, e2, e3, hp⟩, ⟨v2, d1, d0, q, vs, d2, d3, hq, r⟩, h1⟩ := h1
      subst e3 d3
      have hv : v2 = .ref s.q := d0 _ rfl
      have hqq : q = s.q := V.ref.inj (d2.symm.trans hv)
      subst hqq
      refine ⟨sm, [p, s.q] :: [] :: fs, ⟨⟨v, e1, e0, p, s.q, e2, rfl, hp, by rw [hq, ints_of r]⟩, rfl, h1⟩, ?_, ?_⟩
      · exact h2
      · exact h3
/-- two slots, alone -/
theorem Env.pick0 {c : Cell} (E : Env K I H σ (c :: Γ) ρ Θ) : ∃ o σ1, σ = o :: σ1 ∧ EnvL K I H ((o, c) :: (σ1.zip Γ ++ ρ.zip Θ)) ∧ σ1.length = Γ.length := by
  cases σ with
  | nil => have := E.1; simp at this
  | cons o σ => exact ⟨o, σ, rfl, E.2.2, by have := E.1; simpa using this⟩
theorem zip_at' {σ : List (Option V)} (l : σ.length = Γ.length) {c : Cell} (h : Γ[i]? = some c) : ∃ o, σ[i]? = some o := by
  have hl : i < Γ.length := (List.getElem?_eq_some_iff.mp h).1
  exact ⟨σ[i]'(by rw [l]; exact hl), List.getElem?_eq_getElem _⟩
/-- great = source[0] -/
theorem st_srcOpen {s : Src} (E : Env K I H σ (.own s pn :: Γ) ρ Θ) (hi : i < Γ.length)
    (next : ∀ q σ', Env K I H σ' (.own (⟨q, s.seed, s.n⟩ : SrcH) pn :: Γ.set i (.own s.cells (some (.ref q)))) ρ Θ → dn σ' H) : tAsg (tOp (rIxL K) (tVar 0) (tC (.int 0))) (gName (i + 1)) ⟨dn, dr, db, dc⟩ σ H := by
  obtain ⟨o, σ1, rfl, e, l⟩ := E.pick0
  obtain ⟨q, e2, p, rfl, hp⟩ := e.srcOpen
  refine ⟨_, rfl, p, _, 0, .ref q, rfl, rfl, SqL.of hp, rfl, next q _ ?_⟩
  have E2 : Env K I H (some (.ref p) :: σ1) (.own (⟨q, s.seed, s.n⟩ : SrcH) pn :: Γ) (some (.ref q) :: ρ) (.own s.cells (some (.ref q)) :: Θ) :=
    ⟨E.1, by simp [E.2.1], e2.perm (List.Perm.cons _ List.perm_middle.symm)⟩
  exact E2.store (i := i + 1) (by simpa using hi) rfl
theorem hf_src1 {s : SrcH} (hΓ : Γ[0]? = some (.own s pn)) : HF K (tOp (rIxL K) (tVar 0) (tC (.int 1))) Γ (.ok s.seed) := .mk fun X Q E q => by
  obtain ⟨o, r, ho, e, _⟩ := E.pick hΓ
  obtain ⟨_, fs, h1, _⟩ := e
  cases fs with
  | nil => exact h1.elim
  | cons f fs =>
    obtain ⟨v, e1, _, p, e2, _, hp⟩ := h1.1
    have e1 : o = some v := e1
    subst e1 e2
    exact ⟨_, ho, p, _, 1, _, rfl, rfl, SqL.of hp, rfl, q trivial⟩
theorem hf_src2 {s : SrcH} (hΓ : Γ[0]? = some (.own s pn)) : HF K (tOp (rIxL K) (tVar 0) (tC (.int 2))) Γ (.ok s.n) := .mk fun X Q E q => by
  obtain ⟨o, r, ho, e, _⟩ := E.pick hΓ
  obtain ⟨_, fs, h1, _⟩ := e
  cases fs with
  | nil => exact h1.elim
  | cons f fs =>
    obtain ⟨v, e1, _, p, e2, _, hp⟩ := h1.1
    have e1 : o = some v := e1
    subst e1 e2
    exact ⟨_, ho, p, _, 2, _, rfl, rfl, SqL.of hp, rfl, q trivial⟩
/-- source[2] = e -/
theorem EnvL.srcSet {s : SrcH} {p : Addr} {y : Int} (h : EnvL K I H ((some (.ref p), .own s pn) :: es)) : EnvL K I (upd H p (.lst [.ref s.q, .int s.seed, .int y])) ((some (.ref p), .own (⟨s.q, s.seed, y⟩ : SrcH) pn) :: es) := by
  obtain ⟨sm, fs, h1, h2, h3⟩ := h
  cases fs with
  | nil => exact h1.elim
  | cons f fs =>
    obtain ⟨⟨v, e1, e0, p', e2, e3, hp⟩, h1⟩ := h1
    cases e1
    cases e2
    subst e3
    rw [List.flatten_cons] at h2 h3
    have hn := List.nodup_append.mp h2
    have npf : ∀ a ∈ fs.flatten, a ≠ p := fun a ha q => hn.2.2 p (by simp) a ha q.symm
    have pI := (h3 p (by simp)).1
    refine ⟨fun a u e => ?_, [p] :: fs, ⟨⟨_, rfl, e0, p, rfl, rfl, upd_same⟩, Ents.mono (Same.refl _) (fun a ha => upd_ne (npf a ha)) h1⟩, by rw [List.flatten_cons]; exact h2, fun a ha => ?_⟩
    · rw [upd_ne (ne_of_none e pI)]
      exact sm a u e
    · rw [List.flatten_cons] at ha
      refine ⟨(h3 a ha).1, ?_⟩
      by_cases hap : a = p
      · rw [hap, upd_same]; exact fun z => nomatch z
      · rw [upd_ne hap]; exact (h3 a ha).2
theorem st_srcSet {s : SrcH} {y : Int} {dn : L2.St → Hp → Prop} (E : Env K I H σ (.own s pn :: Γ) (some v :: ρ) (.im y :: Θ))
    (next : ∀ H', Env K I H' σ (.own (⟨s.q, s.seed, y⟩ : SrcH) pn :: Γ) ρ Θ → dn σ H') : gSub (tVar 0) (tC (.int 2)) rSetL v σ H dn := by
  obtain ⟨ev, _⟩ := E.topS
  subst ev
  obtain ⟨o, σ1, rfl, e, l⟩ := (Env.pop E).pick0
  obtain ⟨_, fs, h1, _⟩ := id e
  cases fs with
  | nil => exact h1.elim
  | cons f fs =>
    obtain ⟨w, e1, _, p, e2, _, hp⟩ := h1.1
    have e1 : o = some w := e1
    subst e1 e2
    exact ⟨_, rfl, p, _, 2, 2, rfl, rfl, hp, rfl, next _ ⟨E.1, E.len, e.srcSet⟩⟩
/-- at the end -/
theorem Env.srcClose {s : SrcH} {xs : List Int} {c1 : Cell} (E : Env K I H σ (.own s pn :: c1 :: .own xs (some (.ref s.q)) :: Γ) ρ Θ) : Env K I H σ (.own (⟨xs, s.seed, s.n⟩ : Src) pn :: c1 :: .any :: Γ) ρ Θ := by
  obtain ⟨o, σ1, rfl, e, l⟩ := E.pick0
  cases σ1 with
  | nil => simp at l
  | cons o1 σ1 =>
    cases σ1 with
    | nil => simp at l
    | cons o2 σ1 =>
      refine ⟨E.1, E.2.1, ?_⟩
      have p1 : ((o, Cell.own s pn) :: ((o1 :: o2 :: σ1).zip (c1 :: .own xs (some (.ref s.q)) :: Γ) ++ ρ.zip Θ)).Perm ((o, Cell.own s pn) :: (o2, .own xs (some (.ref s.q))) :: (o1, c1) :: (σ1.zip Γ ++ ρ.zip Θ)) := (List.Perm.swap _ _ _).cons _
      have z := (e.perm p1).srcClose
      exact z.perm ((List.Perm.swap _ _ _).cons _)
/-- [cells, seed, n] -/
theorem st_newSrc {a b : Int} {xs : List Int} (E : Env K I H σ Γ (some v3 :: some v2 :: some v1 :: ρ) (.im b :: .im a :: .own xs pn :: Θ)) (next : ∀ H' v, Env K I H' σ Γ (some v :: ρ) (.own (⟨xs, a, b⟩ : Src) :: Θ) → Q v H') :
    LsG [v1, v2, v3] H Q := by
  refine ⟨line_of (by decide : (3 : Nat) ≤ line), fun p hp => next _ _ ?_⟩
  obtain ⟨e3, _⟩ := E.topS
  obtain ⟨e2, _⟩ := E.pop.topS
  subst e3 e2
  have e := E.pop.pop.unstack
  have hI := e.none_of hp
  obtain ⟨sm, fs, h1, h2, h3⟩ := e
  cases fs with
  | nil => exact h1.elim
  | cons f fs =>
    obtain ⟨⟨w, d1, _, q, vs, d2, d3, hq, r⟩, h1⟩ := h1
    have d1 : v1 = w := Option.some.inj d1
    subst d1 d2 d3
    have hn : ∀ a ∈ ([q] :: fs).flatten, a ≠ p := fun a ha z => (h3 a ha).2 (by rw [z]; exact hp)
    have hqp : q ≠ p := hn q (by simp)
    refine ⟨E.1, by have := E.pop.pop.len; simpa using this, ?_⟩
    have z : EnvL K I (upd H p (.lst [.ref q, enc a, enc b])) ((some (.ref p), .own (⟨xs, a, b⟩ : Src)) :: (σ.zip Γ ++ ρ.zip Θ)) := by
      refine ⟨fun a u e => ?_, [p, q] :: fs, ⟨⟨_, rfl, (fun _ z => nomatch z), p, q, rfl, rfl, upd_same, by rw [upd_ne hqp, hq, ints_of r]⟩, Ents.mono (Same.refl _) (fun a ha => upd_ne (hn a (by simp at ha ⊢; exact .inr ha))) h1⟩, ?_, fun a ha => ?_⟩
      · rw [upd_ne (ne_of_none e hI)]
        exact sm a u e
      · show (p :: ([q] :: fs).flatten).Nodup
        exact List.nodup_cons.mpr ⟨fun z => hn p z rfl, h2⟩
      · have ha : a ∈ p :: ([q] :: fs).flatten := ha
        rcases List.mem_cons.mp ha with ha | ha
        · subst ha
          exact ⟨hI, by rw [upd_same]; exact fun z => nomatch z⟩
        · exact ⟨(h3 a ha).1, by rw [upd_ne (hn a ha)]; exact (h3 a ha).2⟩
    exact z.perm List.perm_middle.symm
/-! pop -/
theorem st_popAt [Rep α] {xs : List α} {k : α × List α → Res ω} {l : Addr} {m : Int} (E : Env K I H σ Γ (some v :: ρ) (.im m :: Θ)) (hl : σ[i]? = some (some (.ref l))) (hΓ : Γ[i]? = some (.own xs pn)) (h : wp ((lPopAt xs m).bind k) P X)
    (next : ∀ y H' w, Env K I H' σ (Γ.set i (.own y.2 pn)) (some w :: ρ) (.im y.1 :: Θ) → wp (k y) P X → Q w H') : rPopAt (.ref l) [v] H Q := by
  obtain ⟨ev, _⟩ := E.topS
  subst ev
  obtain ⟨p, vs, hs, hp, _, q, ch, _⟩ := (Env.pop E).ownAt hΓ
  have e : l = p := by
    rw [hl] at hs
    exact V.ref.inj (Option.some.inj (Option.some.inj hs))
  subst e
  have hlen : vs.length = xs.length := Paired.length q
  unfold lPopAt at h
  rw [clo_eq] at h
  split at h
  · rename_i hb
    cases e2 : seqIndex? m xs.length with
    | none => rw [e2] at h; exact h.elim
    | some n =>
      rw [e2] at h
      dsimp only at h
      cases e3 : xs[n]? with
      | none => rw [e3] at h; exact h.elim
      | some y =>
        rw [e3] at h
        have hn := (List.getElem?_eq_some_iff.mp e3).1
        have hv : vs[n]? = some (vs[n]'(by omega)) := List.getElem?_eq_getElem (by omega)
        refine ⟨l, vs, m, n, _, rfl, rfl, hp, hb.1, hb.2, by rw [hlen]; exact e2, hv, next (y, xs.eraseIdx n) _ _ ?_ h⟩
        exact (ch (Grow.refl E.same) _ _ (paired_erase (k := n) q)).push (paired_at q hv e3)
  · exact h.elim
theorem st_pop [Rep α] {xs : List α} {k : α × List α → Res ω} {l : Addr} (E : Env K I H σ Γ ρ Θ) (hl : σ[i]? = some (some (.ref l))) (hΓ : Γ[i]? = some (.own xs pn)) (h : wp ((lPop xs).bind k) P X)
    (next : ∀ y H' w, Env K I H' σ (Γ.set i (.own y.2 pn)) (some w :: ρ) (.im y.1 :: Θ) → wp (k y) P X → Q w H') : rPop (.ref l) [] H Q := by
  obtain ⟨p, vs, hs, hp, _, q, ch, _⟩ := E.ownAt hΓ
  have e : l = p := by
    rw [hl] at hs
    exact V.ref.inj (Option.some.inj (Option.some.inj hs))
  subst e
  have hlen : vs.length = xs.length := Paired.length q
  unfold lPop at h
  cases e3 : xs[xs.length - 1]? with
  | none => rw [e3] at h; exact h.elim
  | some y =>
    rw [e3] at h
    have hn := (List.getElem?_eq_some_iff.mp e3).1
    obtain ⟨w, hv⟩ : ∃ w, vs[xs.length - 1]? = some w := ⟨_, List.getElem?_eq_getElem (by omega)⟩
    refine ⟨l, vs, w, rfl, rfl, hp, by rw [hlen]; exact hv, next (y, xs.dropLast) _ _ ?_ h⟩
    exact (ch (Grow.refl E.same) _ _ (paired_dropLast q)).push (paired_at q hv e3)
end
end M
namespace M
open PySem PySem.Spec PyProof.Rows L2
/-! ### defs that raise, exceptions without a context -/
theorem passN {X : Cx} : Passes (L2N.CX X.prog X.w) X E0 := fun _ _ _ _ _ _ _ h => by
  obtain ⟨_, _, _, _, _, _, _, _, _, _, _, _, z⟩ := h
  exact z.elim
theorem takesN0 {X : Cx} : L2N.Takes X (fun _ _ _ _ => False) := fun _ _ x => by
  obtain ⟨_, _, _, _, _, _, _, _, _, _, _, _, _, _, _, _, z⟩ := x
  exact z.elim
section
variable {P : Program} {w : World} {K : PySem.W.Frag} {mg : Str → Option Value} {base : Heap}
theorem okN {x qual : Str} {st : Stmt} {f : Addr} {fd : FuncData} {N ps : List Str} {k : Nat} {sp : Sp} (F : Fun K x qual st f fd) (S : FnScope N ps (defScope st)) (len : ∀ vs H Q E, sp vs H Q E → vs.length = ps.length)
    (hbody : ∀ (cdv : Value) (A : Around) (outer : List PySem.Env) (s : Shared) (H : Hp) (vs : List V) (Q : VK) (E : XK), Room k (A.deeper (envOfC qual (defScope st) s.heap.objs.size f cdv)) → sp vs H Q E →
      ∃ t, PSs (cxOf (L2N.CX P w) P w K mg base N qual (defScope st) f cdv A outer s H E) (defBody st) t ∧ t { nx := fun _ H' => Q .non H', rt := Q } (L2.start N vs) H) : FnOk P w K mg base (L2N.CX P w) (k + 1) f fd ps sp := by
  obtain ⟨oc, od, kV, doc, pm, an, cdv, ct, osl, rfl, lk, hcd⟩ := F.ex
  exact fn_of lk hcd S len fun A outer s H vs Q E hr hsp => hbody cdv A outer s H vs Q E hr hsp
theorem okH {x qual : Str} {st : Stmt} {f : Addr} {fd : FuncData} {N ps : List Str} {k : Nat} {sp : Sp} (F : Fun K x qual st f fd) (S : FnScope N ps (defScope st)) (len : ∀ vs H Q E, sp vs H Q E → vs.length = ps.length)
    (hbody : ∀ (cdv : Value) (A : Around) (outer : List PySem.Env) (s : Shared) (H : Hp) (vs : List V) (Q : VK) (E : XK) (p : Addr × Obj), L2H.Hot1 A p → L2H.RoomH k (A.deeper (envOfC qual (defScope st) s.heap.objs.size f cdv)) → sp vs H Q E →
      ∃ t, PSs (L2H.cxH (L2N.CX P w) P w K mg base N qual (defScope st) f cdv A outer s H E p) (defBody st) t ∧ t { nx := fun _ H' => Q .non H', rt := Q } (L2.start N vs) H) : L2H.FnH P w K mg base (L2N.CX P w) (k + 1) f fd ps sp := by
  obtain ⟨oc, od, kV, doc, pm, an, cdv, ct, osl, rfl, lk, hcd⟩ := F.ex
  exact L2H.fn_ofH lk hcd S len fun A outer s H vs Q E p hot hr hsp => hbody cdv A outer s H vs Q E p hot hr hsp
end
/-- C(e, ..), an own exception with __init__, made where none is handled -/
theorem pmk_oexN {X : Cx} {CX : CXT} {x : Str} {e : Expr} {es : List Expr} {ta : TA} {p pos : Pos} {C fI : Addr} {k : Nat} {fd : FuncData} {ps : List Str} {sp : Sp} (T : OexC X.K C) (iC : PySem.W.findIn X.K (.ref C) "__init__" = some (some (.ref fI)))
    (tI : PySem.W.typeIn X.K (.ref fI) = some (.type "function")) (F1 : FnOk X.prog X.w X.K X.mg X.base CX k fI fd ps sp) (hr : Room (k + 1) X.A) (hb : Binds X.K fd ps []) (hx : Passes CX X (fun _ _ _ => False)) (hg : Gl X x) (hm : X.mg x = some (.ref C)) (ha : PA X (e :: es) ta)
    (hdb : (x == ("__debug__" : Str)) = false := by decide) (he : starEach (e :: es) X.env = (false, eval e X.env) :: starEach es X.env := by rfl) (hpl : (backTo pos (starEach es X.env)).any (·.1) = false := by rfl) :
    L2N.PMk X (.Call (.Name x p) (e :: es) [] pos) (tMkO C sp [] ta) := by
  intro pins s σ H Q I h
  obtain ⟨nm, q, N, bs, bm, sn, sub, ab, col, dd, k0, k1, k2, k3, k5, hC, hbm⟩ := T.cls
  refine wpAny_Call_Name_kw (ld_glob I hg hm ?_ hdb)
  refine PySem.W.callWith_K (h₀ := X.base) I.ok.mod.kin T.kC (thn (ha.run pos pins s σ H _ I h) fun us s1 ⟨vs, H1, I1, r1, hz, q1⟩ => ⟨I1.kIn, ?_⟩) he hpl
  show wpAny _ _ (call (.ref C) us) _ _ _
  obtain ⟨hp, g, dr, tk, os⟩ := s1
  have hsz : hp.objs.size ≤ hp.objs.size + 1 := Nat.le_succ _
  have hn : H1 (hp.objs.size + 1) = none := I1.hok.fresh hsz
  have hq := q1 (hp.objs.size + 1) hn
  rw [List.append_nil] at hq
  have kk : ∀ b o, hp.get? b = some o → ((hp.push (PySem.W.kdv_tup us)).push (PySem.HandSPX.excO C hp.objs.size)).get? b = some o := fun b o e => Heap.get?_push_of_some _ (Heap.get?_push_of_some _ e)
  have hget : ((hp.push (PySem.W.kdv_tup us)).push (PySem.HandSPX.excO C hp.objs.size)).get? (hp.objs.size + 1) = some (PySem.HandSPX.excO C hp.objs.size) := by heap_get
  have I2 : Inv X pins σ (upd H1 (hp.objs.size + 1) (exo (hp.objs.size + 1) C none)) ⟨(hp.push (PySem.W.kdv_tup us)).push (PySem.HandSPX.excO C hp.objs.size), g, dr, tk, os⟩ :=
    I1.laid (t' := tk) (a := hp.objs.size + 1) (o := exo (hp.objs.size + 1) C none) (h' := (hp.push (PySem.W.kdv_tup us)).push (PySem.HandSPX.excO C hp.objs.size)) kk hsz (exo_ok hget)
  have r2 : Vals (V.ref (hp.objs.size + 1) :: vs) (Value.ref (hp.objs.size + 1) :: us) := .cons rfl r1
  have hl : (Value.ref (hp.objs.size + 1) :: us ++ []).length = ps.length := by
    have e := r2.length
    rw [F1.len _ _ _ _ hq] at e
    rw [List.append_nil]
    exact e.symm
  have hus : us.length ≤ sizeLine := by
    rw [← Paired.length r1, sizeLine_eq]
    omega
  have b2 := hb _ (Value.ref (hp.objs.size + 1) :: us) I2.kIn hl
  rw [List.append_nil] at b2
  refine wpAny_call (PySem.HandSPX.call_own F.excBase_ValueError (fun Y => PySem.HandSPX.refsVE_contains Y bm hbm) (I1.kIn _ _ hC) (PySem.W.looks_findIn I1.kIn iC) (fun self => PySem.W.bind_fn I1.kIn self tI) hus
    (codeAny_mono (F1.run _ X.stack _ _ ⟨Value.ref (hp.objs.size + 1) :: us, []⟩ (Value.ref (hp.objs.size + 1) :: us) _ _ (fun _ _ _ => False) (hr.make C us []) (I2.env0.make C us []) b2 r2 hq) fun r s' hq' => ?_))
  cases r with
  | error er => exact hx pins σ _ _ er s' I2 hq'
  | ok fl =>
    cases fl with
    | ret u =>
      obtain ⟨v, H2, os2, bare2, un2, hok2, rv, ev, d, fs, ea, ed, hd1, q2⟩ := hq'
      subst ev
      obtain ⟨h2, g2, d2, t2, os'⟩ := s'
      obtain ⟨t0, G, J, kG, ge, hoe, na⟩ := mk_end0 (d2 := d2) (t2 := t2) I1 hsz kk un2 hok2 os2 bare2 ea ed hd1
      refine ⟨rv, hp.objs.size + 1, _, _, ⟨G, g2, d2, t2, os'⟩, _, .ref C, some d, rfl, J, kG, ge, hoe, ⟨rfl, rfl, fun vs hv => ?_⟩, rfl, rfl, na, rfl, bare2, raises_own T.exC T.tyC, q2⟩
      cases hv
      rfl
    | next => exact False.elim hq'
    | brk => exact False.elim hq'
    | cont => exact False.elim hq'
/-- what the top says of such a class -/
structure ExcN (P : Program) (w : World) (K : PySem.W.Frag) (mg : Str → Option Value) (base : Heap) (x f : Str) (C fI : Addr) (fd : FuncData) : Prop where
  gC : mg x = some (.ref C)
  T : OexC K C
  iC : PySem.W.findIn K (.ref C) "__init__" = some (some (.ref fI))
  tI : PySem.W.typeIn K (.ref fI) = some (.type "function")
  ini : FnOk P w K mg base (L2N.CX P w) 1 fI fd ["self", f] (spIni C f)
  bI : Binds K fd ["self", f] []
  ec : ExcC K C
  xf : XfC K C
  no : PySem.W.findIn K (.ref C) f = some none
end M
namespace PySem.W
open PySem PySem.Spec PySem.Calls PyProof.Rows
section
variable {prog : Program} {w : World} {A : Around} {E : Value → Shared → Prop} {s : Shared} {K : Frag} {x D : Addr} {ox : Obj} {od : Option Obj}
/-- a caught error's class, whatever fields it bears -/
theorem kit_excM (C : L2.ExcC K D) : KitX K (.ref x) (.ref D) (fun h => InstAt h x ox D od) where
  ty := fun _ _ _ I => I.type
  it := fun M h X I => by
    obtain ⟨cdD, hcD, _⟩ := any_some C.hd
    unfold clsIn at hcD
    split at hcD
    · rename_i c' d' cd' sl' ho
      intro A' Q' E' s' k q
      unfold isType loadHead
      exact wpAny_bind (wpAny_loadPart (k _ _ (X _ _ ho)) (wpAny_pure q))
    · cases hcD
  ne := fun h tp dd its n sl X htp => (handS_kitx_exc (x := x) (ox := ox) C.hg C.hk C.hs C.hd C.ha C.hn C.ht C.hm).ne h tp dd its n sl X htp
  ca := fun {prog w A E Q s} X I h => by
    have hf : findObj K D od "__class__" = some (.bind (.builtin "getset_descriptor.__get__") (.builtin "object.__class__")) := by
      obtain ⟨cd, hc, _⟩ := any_some C.hd
      unfold findObj
      rw [hc, Option.bind_some, C.ha, Option.bind_some]
      simp [C.hn, C.ht]
    obtain ⟨hp, g, d, t, os⟩ := s
    have L0 := I.type (M := model prog w)
    have L1 := looks_findIn (M := model prog w) X C.hg
    have L2 := looks_findIn (M := model prog w) X C.hk
    have L3 := looks_find (M := model prog w) X I hf
    have sub : Looks (model prog w) hp (isInstance (.ref x) (.type "BaseException")) true := L0.andThen (looks_subIn X C.hs)
    have hx2 : (Value.builtin "BaseException.__getattribute__" == Value.builtin "object.__getattribute__") = false := by decide +kernel
    have hx1 : (onTheHeap (Value.ref D) && Value.builtin "BaseException.__getattribute__" == Value.builtin "object.__getattribute__") = false := by rw [hx2]; rfl
    unfold getAttr? getAttrBy? getAttrBy
    refine wpAny_bind (wpAny_mkText (wpAny_bind (wpAny_attempt (wpAny_holding (wpAny_bind (L0.at (wpAny_bind (L1.at ?_))))))))
    show wpAny _ _ (if (onTheHeap (Value.ref D) && Value.builtin "BaseException.__getattribute__" == Value.builtin "object.__getattribute__") = true then _ else _) _ _ _
    rw [hx1, if_neg Bool.false_ne_true]
    unfold getAttrByItsOwn hookBefore
    refine wpAny_bind ?_
    rw [if_pos (show onTheHeap (Value.ref D) = true from rfl)]
    refine L2.at (wpAny_bind (wpAny_attempt (wpAny_holding ?_)))
    unfold callGetattribute
    rw [show (false && onTheHeap (Value.builtin "BaseException.__getattribute__")) = false from rfl, if_neg Bool.false_ne_true]
    unfold boundAndCalled
    rw [PySem.F.excAttr_ValueError.ga.bind (.ref x)]
    refine wpAny_bind (wpAny_pure ?_)
    show wpAny _ _ (call (.builtin "BaseException.__getattribute__") [.ref x, .str "__class__" t]) _ _ _
    refine wpAny_call (codeAny_call_builtin PySem.F.excAttr_ValueError.ga.plain PySem.F.entry_bexc_ga ?_)
    refine @check_slot (model prog w) _ _ ⟨hp, g, d, t + 1, os⟩ "BaseException.__getattribute__" "BaseException" "__getattribute__" (.ref x) [.str "__class__" t] [] _ (by decide +kernel) (by decide +kernel) sub (PySem.F.args_bexc_ga (.ref x) (.str "__class__" t)) ?_
    unfold Builtin.«object.__getattribute__»
    refine wpAny_bind (wpAny_of_eq (a := ((Value.ref x : Value), [Value.str "__class__" t])) (by first | rfl | (simp only [slotArgs]; rfl)) ?_)
    refine wpAny_bind (wpAny_pure (wpAny_bind (L0.at (wpAny_bind (L3.at ?_)))))
    show wpAny _ _ (holding [Value.builtin "object.__class__"] (call (.builtin "getset_descriptor.__get__") [.builtin "object.__class__", .ref x, .ref D]) >>= ret) _ _ _
    refine wpAny_bind (wpAny_holding (wpAny_call (class_get (s := ⟨hp, g, d, t + 1, os⟩) (ox := ox) (od := od) X I C.hm (wpAny_pure ?_))))
    show wpAny _ _ (handedOut (.ref D)) _ _ _
    rw [handedOut_of (v := .ref D) rfl]
    first
      | exact wpAny_pure (wpAny_pure h)
      | exact wpAny_pure h
      | exact wpAny_pure (wpAny_bind (wpAny_pure (wpAny_pure h)))
end
end PySem.W
namespace M
open PySem PySem.Spec PyProof.Rows L2
/-- isinstance(e, c), e the caught exception; its class and its fields are wished for -/
def rIsX (K : PySem.W.Frag) (a : Addr) (cls : Value) (d : Option Addr) : List V → Hp → VK → Prop := fun xs H Q => ∃ (D : Addr) (c : V) (cv : Value) (b : Bool), xs = [.ref a, c] ∧ (∀ u, RelV c u → u = cv) ∧ cls = .ref D ∧ (d = none ∨ ∃ dd fs, d = some dd ∧ H dd = some (.xd fs)) ∧ ExcC K D ∧ PySem.W.kitOne K (.ref D) cv = some b ∧ Q (.bl b) H
theorem call_isX {X : Cx} {a : Addr} {oe : Obj} {cls : Value} {d : Option Addr} {pn : List (Addr × Obj)} (hz : Zc cls d oe) (hf : ∃ vs, oe.data = .fields vs) : CallR (X.suite a ((a, oe) :: pn)) (.builtin "isinstance") (rIsX X.K a cls d) := by
  intro pins s σ H xs us Q I r h
  obtain ⟨D, c, cv, b, rfl, hcv, rfl, hdd, C, e, q⟩ := h
  cases r with
  | cons rx rr =>
    cases rr with
    | cons rt rr =>
      cases rr
      cases rx
      have ec := hcv _ rt
      subst ec
      obtain ⟨hget, _⟩ := I.pin (a, oe) (List.mem_append.mpr (.inl List.mem_cons_self))
      obtain ⟨vs, hv⟩ := hf
      obtain ⟨od, J⟩ : ∃ od, PySem.W.InstAt s.heap a oe D od := by
        rcases hdd with rfl | ⟨dd, fs, rfl, hdd⟩
        · exact ⟨none, hget, hz.1, by unfold PySem.W.notCls; rw [hv] <;> rfl, by rw [hz.2]; trivial⟩
        · have hx : ObjOk X.prog X.w H s.heap dd (.xd fs) := I.hok dd _ hdd
          obtain ⟨mA, hns, hr⟩ := hx
          obtain ⟨od, ho, hl⟩ := lookIn_ns hns
          exact ⟨some od, hget, hz.1, by unfold PySem.W.notCls; rw [hv] <;> rfl, by rw [hz.2]; exact ho⟩
      exact PySem.W.kia_one (PySem.W.kit_excM C) I.kIn J e (fun z => nomatch z) fun tk => ⟨.bl b, H, I.kept (t' := tk) fun _ _ z => z, rfl, q⟩
/-- what a slot holds that names the caught exception -/
structure ExV where
  a : Addr
  d : V
  e : Exn
instance repExV : Rep ExV where
  rp K I v x := v = .ref x.a ∧ XDr I x.d x.e.fs
  mono := fun e ⟨e1, h⟩ => ⟨e1, h.mono e⟩
def Res.catch {α : Type} (m : Res α) (f : Exn → Res α) : Res α := match m with | .exc e => f e | .ok a => .ok a | .bad => .bad
@[simp] theorem Res.catch_ok {α : Type} (a : α) (f : Exn → Res α) : (Res.ok a).catch f = .ok a := rfl
@[simp] theorem Res.catch_exc {α : Type} (e : Exn) (f : Exn → Res α) : (Res.exc e).catch f = f e := rfl
theorem wp_catch {α : Type} {m : Res α} {f : Exn → Res α} {P : α → Prop} {X : Exn → Prop} (h : wp (m.catch f) P X) : wp m P (fun e => wp (f e) P X) := by cases m <;> exact h
/-- a test of the class -/
def IsOk (K : PySem.W.Frag) (cls cv : Value) (m : Res Bool) : Prop := m = .bad ∨ ∃ D b, cls = .ref D ∧ ExcC K D ∧ PySem.W.kitOne K (.ref D) cv = some b ∧ m = .ok b
/-- a field: of the class c -/
def fldI (c f : Str) (e : Exn) : Res Int := if e.cls = c then (match e.fs.lookup f with | some (.int i) => .ok i | _ => .bad) else .bad
def fldT (c f : Str) (e : Exn) : Res Tx := if e.cls = c then (match e.fs.lookup f with | some (.str s) => if s.cps.toList.length ≤ line then .ok s.cps.toList else .bad | _ => .bad) else .bad
section
variable {K : PySem.W.Frag} {mg : Str → Option Value} {I I1 H I' H' : Hp} {σ σ' ρ : List (Option V)} {Γ Γ' Γ1 Θ : List Cell} {i j n : Nat} {v d : V} {Q : VK} {a : Addr} {e : Exn} {cls cv : Value} {c : V}
theorem hf_isX {m : Res Bool} (hΓ : Γ[i]? = some (.im (⟨a, d, e⟩ : ExV))) (hc : ∀ u, RelV c u → u = cv) (h : IsOk K cls cv m) : HF K (tCB (rIsX K a cls (dOf d)) (tCons (tVar i) (tCons (tC c) tNil))) Γ m := .mk fun X Q E q => by
  obtain ⟨v, ho, e1, hd⟩ := E.get hΓ
  subst e1
  rcases h with rfl | ⟨D, b, e2, C, k, rfl⟩
  · exact q.elim
  · refine ⟨_, ho, D, c, cv, b, rfl, hc, e2, ?_, C, k, q trivial⟩
    rcases hd with ⟨_, e3⟩ | ⟨dd, e3, h3⟩
    · rw [show d = .non from e3]
      exact .inl rfl
    · rw [show d = .ref dd from e3]
      exact .inr ⟨dd, _, rfl, E.same _ _ h3⟩
theorem hf_fldI {C : Addr} {x f : Str} (hΓ : Γ[i]? = some (.im (⟨a, d, e⟩ : ExV))) (hm : mg e.cls = some cls) (hC : mg x = some (.ref C)) : HF K (tXf a cls (dOf d) C f (tVar i)) Γ (fldI x f e) := .mk fun X Q E q => by
  obtain ⟨v, ho, e1, hd⟩ := E.get hΓ
  subst e1
  unfold fldI at q
  split at q
  · rename_i hx
    rw [hx, hC] at hm
    have hcl : cls = .ref C := (Option.some.inj hm).symm
    cases e3 : e.fs.lookup f with
    | none => rw [e3] at q; exact q.elim
    | some y =>
      rw [e3] at q
      cases y with
      | int i =>
        obtain ⟨dd, e4, h4⟩ := hd.resolve_left fun z => by rw [show e.fs = [] from z.1] at e3; cases e3
        exact ⟨_, ho, rfl, hcl, dd, e.fs, _, by rw [show d = .ref dd from e4]; rfl, E.same _ _ h4, e3, q trivial⟩
      | _ => exact q.elim
  · exact q.elim
theorem hf_fldT {C : Addr} {x f : Str} (hΓ : Γ[i]? = some (.im (⟨a, d, e⟩ : ExV))) (hm : mg e.cls = some cls) (hC : mg x = some (.ref C)) : HF K (tXf a cls (dOf d) C f (tVar i)) Γ (fldT x f e) := .mk fun X Q E q => by
  obtain ⟨v, ho, e1, hd⟩ := E.get hΓ
  subst e1
  unfold fldT at q
  split at q
  · rename_i hx
    rw [hx, hC] at hm
    have hcl : cls = .ref C := (Option.some.inj hm).symm
    cases e3 : e.fs.lookup f with
    | none => rw [e3] at q; exact q.elim
    | some y =>
      rw [e3] at q
      cases y with
      | str s =>
        dsimp only at q
        split at q
        · rename_i hl
          obtain ⟨dd, e4, h4⟩ := hd.resolve_left fun z => by rw [show e.fs = [] from z.1] at e3; cases e3
          exact ⟨_, ho, rfl, hcl, dd, e.fs, _, by rw [show d = .ref dd from e4]; rfl, E.same _ _ h4, e3, q hl⟩
        · exact q.elim
      | _ => exact q.elim
  · exact q.elim
/-- into the suite: e is bound -/
theorem Env.caught (E : Env K I H σ Γ (some d :: ρ) (.im (XD.mk e.fs) :: Θ)) (hi : i < Γ.length) : Env K I H (σ.set i (some (.ref a))) (Γ.set i (.im (⟨a, d, e⟩ : ExV))) ρ Θ := by
  have hd : XDr I d e.fs := E.topR
  have E2 : Env K I H σ Γ (some (.ref a) :: ρ) (.im (⟨a, d, e⟩ : ExV) :: Θ) := (Env.pop E).push ⟨rfl, hd⟩
  exact E2.store hi rfl
/-- what the clause 'except c as e' wishes, from a walk through its suite -/
theorem caught_as {c : Value} {ts : Addr → Value → Option Addr → TS} {Wout : WX} {D : Ends} (hx : ∀ cls, mg e.cls = some cls → PySem.W.exmOne K cls c = some true) (hi : i < Γ.length)
    (h : ∀ I H σ' a d cls, mg e.cls = some cls → Env K I H σ' (Γ.set i (.im (⟨a, d, e⟩ : ExV))) ρ Θ → ts a cls (dOf d) { nx := fun σ' H' => D.nx (σ'.set i none) H', rt := D.rt, bk := fun σ' H' => D.bk (σ'.set i none) H', ct := fun σ' H' => D.ct (σ'.set i none) H' } σ' H) :
    XWish K mg (wAs K c i ts Wout D) σ Γ ρ Θ e := fun I' H' cls d hm E => ⟨true, hx cls hm, fun _ a _ => h I' H' _ a d cls hm (E.caught hi), fun z => nomatch z⟩
theorem exm_all {c : Value} (h : ∃ cls, mg e.cls = some cls ∧ PySem.W.exmOne K cls c = some true) : ∀ cls, mg e.cls = some cls → PySem.W.exmOne K cls c = some true := fun cls hm => by
  obtain ⟨c2, h1, h2⟩ := h
  rw [h1] at hm
  rw [← Option.some.inj hm]
  exact h2
/-- a call while an exception is handled -/
theorem hot_suite {X : Cx} {a : Addr} {oe : Obj} {cls : Value} {d : Option Addr} {pn : List (Addr × Obj)} (hz : L2N.Zn cls d oe) (hf : ∃ vs, oe.data = .fields vs) : L2H.HotC (X.suite a ((a, oe) :: pn)) := by
  obtain ⟨vs, hv⟩ := hf
  exact ⟨(a, oe), ⟨rfl, vs, hv, hz.2.2 vs hv⟩, List.mem_cons_self⟩
end
end M
namespace M
open PySem PySem.Spec PyProof.Rows L2
/-! ### try: body, except c as e: suite -/
def tTryG (tb : WX → TS) (K : PySem.W.Frag) (c : Value) (i : Nat) (ts : Addr → Value → Option Addr → TS) : TS := fun D σ H => tb (wAs K c i ts (fun _ _ _ _ => False) D) D σ H
theorem ps_tryG {X : Cx} {x n : Str} {c : Value} {i : Nat} {body suite : List Stmt} {b₀ : Stmt} {np pos pos' : Pos} {tb : WX → TS} {ts : Addr → Value → Option Addr → TS}
    (hs : X.stack = X.env :: X.outer) (hf : X.env.frame = some X.env.locals) (hN : X.N.Nodup) (hi : X.N[i]? = some n) (hln : X.env.kindOf n = some .local) (hc : Names X x c)
    (hb : ∀ (W : WX) (pn : List (Addr × Obj)) (xe : Value → Shared → Prop), L2N.Takes (X.tr pn xe) W → PassesOwn (model X.prog X.w) X.A X.env xe → PSs (X.tr pn xe) body (tb W))
    (hsu : ∀ (a : Addr) (oe : Obj) (cls : Value) (d : Option Addr) (pn : List (Addr × Obj)), L2N.Zn cls d oe → (∃ vs, oe.data = .fields vs) → PSs (X.suite a ((a, oe) :: pn)) (b₀ :: suite) (ts a cls d)) :
    PS X (.Try body [.ExceptHandler (some (.Name x np)) (some n) (b₀ :: suite) pos'] [] [] pos) (tTryG tb X.K c i ts) := L2N.ps_try_as hs hf hN hi hln hc takesN0 hb hsu
theorem roomH_mk {k : Nat} {A : Around} (r : Room k A) (h : Option Value) : L2H.RoomH k (A.mark h) := ⟨r.dp, r.un⟩
section
variable {K : PySem.W.Frag} {mg : Str → Option Value} {I I1 H I' H' : Hp} {σ σ' ρ : List (Option V)} {Γ Γ' Γ1 Θ : List Cell} {i j n : Nat} {v d : V} {Q : VK} {a : Addr} {c : Value} {dn db dc : L2.St → Hp → Prop} {dr : VK}
variable {ω : Type} {P : ω → Prop} {X : Exn → Prop}
def TryP {ρτ S : Type} (K : PySem.W.Frag) (G : S → List Cell) (ρ : List (Option V)) (Θ : List Cell) (N : L2.St → Hp → Prop) (R : ρτ → Prop) : Lp ρτ S → Prop
  | .fin s => ∀ I' H' σ', Env K I' H' σ' (G s) ρ Θ → N σ' H'
  | .ret r => R r
theorem st_try {ρτ S : Type} {tb : WX → TS} {ts : Addr → Value → Option Addr → TS} {m : Res (Lp ρτ S)} {f : Exn → Res (Lp ρτ S)} {k : Lp ρτ S → Res ω} (ΓT : List Cell) (R : ρτ → Prop) (G : S → List Cell) (E : Env K I H σ Γ ρ Θ) (hi : i < ΓT.length) (h : wp ((m.catch f).bind k) P X)
    (ret : ∀ r, wp (k (.ret r)) P X → R r) (rest : ∀ s I' H' σ', Env K I' H' σ' (G s) ρ Θ → wp (k (.fin s)) P X → dn σ' H')
    (exm : ∀ e, wp (f e) (TryP K G ρ Θ dn R) X → ∀ cls, mg e.cls = some cls → PySem.W.exmOne K cls c = some true)
    (suite : ∀ e, wp (f e) (TryP K G ρ Θ dn R) X → ∀ I H σ' a d cls, mg e.cls = some cls → Env K I H σ' (ΓT.set i (.im (⟨a, d, e⟩ : ExV))) ρ Θ →
      ts a cls (dOf d) ⟨fun σ' H' => dn (σ'.set i none) H', dr, fun σ' H' => db (σ'.set i none) H', fun σ' H' => dc (σ'.set i none) H'⟩ σ' H)
    (body : (∀ e, wp (f e) (TryP K G ρ Θ dn R) X → ∀ σ, XWish K mg (wAs K c i ts (fun _ _ _ _ => False) ⟨dn, dr, db, dc⟩) σ ΓT ρ Θ e) → wp m (TryP K G ρ Θ dn R) (fun e => wp (f e) (TryP K G ρ Θ dn R) X) → tb (wAs K c i ts (fun _ _ _ _ => False) ⟨dn, dr, db, dc⟩) ⟨dn, dr, db, dc⟩ σ H) :
    tTryG tb K c i ts ⟨dn, dr, db, dc⟩ σ H := by
  have h2 : wp (m.catch f) (TryP K G ρ Θ dn R) X := wp_mono (wp_bind.mp h) (fun y q => by
    cases y with
    | fin s => exact fun I' H' σ' E' => rest s I' H' σ' E' q
    | ret r => exact ret r q) fun _ z => z
  exact body (fun e x σ => caught_as (exm e x) hi (suite e x)) (wp_catch h2)
/-- the suite's end: e is gone -/
theorem Env.gone (E : Env K I H σ Γ ρ Θ) (hi : i < Γ.length) (h : Γ.set i .any = Γ') : Env K I H (σ.set i none) Γ' ρ Θ := by
  subst h
  exact Env.anyOf (E.weak wkAny) hi
theorem wp_kn {b : Bool} {m : Res ω} (h : wp (if b = true then m else .bad) P X) : wp m P X := by
  cases b with
  | true => exact h
  | false => exact h.elim
theorem wp_knT {b : Bool} {m : Res ω} (h : wp (if b = true then m else .bad) P X) : b = true := by
  cases b with
  | true => rfl
  | false => exact h.elim
end
end M
namespace M
open PySem PySem.Spec PyProof.Rows L2
/-! ### the end -/
def clsBody (s : Stmt) : List Stmt := match s with
  | .ClassDef _ _ _ b _ _ _ _ _ _ _ => b
  | _ => []
def spLaw (m : Scr → Res Bool) (K : PySem.W.Frag) : Sp := fun vs H Q _ => ∃ a ns, vs = [.ref a] ∧ SqL K H a (ns.map V.int) ∧ m ⟨ns⟩ = .ok true ∧ ∀ H', Q (.bl true) H'
theorem spLaw_sp {m : Scr → Res Bool} {K : PySem.W.Frag} {mg : Str → Option Value} {vs : List V} {H : Hp} {Q : VK} {E : XK} (h : spLaw m K vs H Q E) : SpM K mg 1 (fun (a : Scr) => [.im a]) (fun a => m a) (fun b => .im b) vs H Q E := by
  obtain ⟨a, ns, rfl, hq, e, q⟩ := h
  refine ⟨rfl, ⟨ns⟩, H, [], [], ⟨rfl, rfl, Same.refl _, [[]], ⟨⟨rfl, _, rfl, a, rfl, hq⟩, trivial⟩, by simp, by simp⟩, ?_⟩
  show wp (m ⟨ns⟩) _ _
  rw [e]
  intro I' H' v E'
  obtain ⟨ev, _⟩ := E'.topS
  rw [ev]
  exact q H'
theorem spLaw_of {m : Scr → Res Bool} {n : Nat} (hm : ∀ ns : List Int, ns.length ≤ n → m ⟨ns⟩ = .ok true) (K : PySem.W.Frag) (H : Hp) (a : Addr) (ns : List Int) (hl : ns.length ≤ n) (hq : SqL K H a (ns.map V.int)) :
    spLaw m K [.ref a] H (fun v _ => v = .bl true) fun _ _ _ => False := ⟨a, ns, rfl, hq, hm ns hl, fun _ => rfl⟩
theorem no_CX {P : Program} {w : World} {H : Hp} {s : Shared} {e : Value} {s' : Shared} (h : L2N.CX P w [] H s (fun _ _ _ => False) e s') : False := by
  obtain ⟨_, _, _, _, _, _, _, _, _, _, _, _, z⟩ := h
  exact z
theorem kit_ref {K : PySem.W.Frag} {C T : Addr} {b : Bool} (hd : PySem.W.hasDictIn K T = true) (ht : PySem.W.typeIn K (.ref T) = some (.type "type")) (hs : PySem.W.subIn K (.ref C) (.ref T) = some b) (hc : PySem.W.subIn K (.ref C) (.ref C) = some true) :
    PySem.W.kitOne K (.ref C) (.ref T) = some b := by
  unfold PySem.W.kitOne
  by_cases e : C = T
  · subst e
    rw [hc] at hs
    rw [if_pos (beq_self_eq_true _), hs]
  · have ne : (Value.ref C == Value.ref T) = false := beq_eq_false_iff_ne.mpr fun z => e (Value.ref.inj z)
    rw [ne, if_neg Bool.false_ne_true]
    obtain ⟨cd, hcd, _⟩ := PySem.W.any_some hd
    show (if ((PySem.W.clsIn K T).isSome && PySem.W.typeIn K (.ref T) == some (.type "type")) = true then PySem.W.subIn K (.ref C) (.ref T) else none) = some b
    have e2 : ((PySem.W.clsIn K T).isSome && PySem.W.typeIn K (.ref T) == some (.type "type")) = true := by rw [hcd, ht] <;> rfl
    rw [if_pos e2]
    exact hs
theorem kit_typ {K : PySem.W.Frag} {C : Addr} {T : String} {b : Bool} (hk : PySem.W.kitMeta T = true) (hs : PySem.W.subIn K (.ref C) (.type T) = some b) : PySem.W.kitOne K (.ref C) (.type T) = some b := by
  unfold PySem.W.kitOne
  have ne : (Value.ref C == Value.type T) = false := beq_eq_false_iff_ne.mpr fun z => nomatch z
  rw [ne, if_neg Bool.false_ne_true]
  show (if PySem.W.kitMeta T = true then PySem.W.subIn K (.ref C) (.type T) else none) = some b
  rw [if_pos hk]
  exact hs
end M
namespace M
open PySem PySem.Spec PyProof.Rows L2
/-! ### more of lists -/
noncomputable def lCat {α : Type} (xs ys : List α) : Res (List α) := clo (if xs.length + ys.length ≤ line then .ok (xs ++ ys) else .bad)
noncomputable def lRep {α : Type} (xs : List α) (n : Int) : Res (List α) := clo (if -(2 ^ 63) ≤ n ∧ n < 2 ^ 63 ∧ xs.length * n.toNat ≤ line then .ok (List.replicate n.toNat xs).flatten else .bad)
section
variable {K : PySem.W.Frag} {mg : Str → Option Value} {I I1 H I' H' : Hp} {σ σ' ρ : List (Option V)} {Γ Γ' Γ1 Θ : List Cell} {i j n : Nat} {v v0 v1 v2 v3 : V} {te tl ti : TE} {ta : TA} {tt : TT} {t u : TS} {dn db dc : L2.St → Hp → Prop} {dr : VK} {Q : VK}
variable {pn : Option V} {ω : Type} {P : ω → Prop} {X : Exn → Prop} {α β γ δ : Type}
theorem paired_rep {f : V → α → Prop} {vs : List V} {xs : List α} (p : Paired f vs xs) : ∀ n : Nat, Paired f (List.replicate n vs).flatten (List.replicate n xs).flatten
  | 0 => by simp; exact .nil
  | n + 1 => by
    rw [List.replicate_succ, List.replicate_succ, List.flatten_cons, List.flatten_cons]
    exact paired_app p (paired_rep p n)
theorem cat_of [Rep α] {xs ys : List α} {k : List α → Res ω} (E : Env K I H σ Γ (some v2 :: some v1 :: ρ) (.im ys :: .im xs :: Θ)) (h : wp ((lCat xs ys).bind k) P X)
    (next : ∀ vs, Env K I H σ Γ ρ Θ → Paired (fun v x => Rep.rp K I v x) vs (xs ++ ys) → wp (k (xs ++ ys)) P X → ∀ p, H p = none → Q (.ref p) (upd H p (.lst vs))) : OpG rCat v1 v2 H Q := by
  obtain ⟨b, ws, rfl, hb, q⟩ := E.topR
  obtain ⟨a, vs, rfl, ha, p⟩ := E.pop.topR
  have l1 : vs.length = xs.length := Paired.length p
  have l2 : ws.length = ys.length := Paired.length q
  unfold lCat at h
  rw [clo_eq] at h
  split at h
  · rename_i hz
    exact ⟨a, b, vs, ws, rfl, rfl, E.same _ _ ha, E.same _ _ hb, by rw [l1, l2, ← line_eq]; exact hz, next _ E.pop.pop (paired_app p q) h⟩
  · exact h.elim
theorem st_catI [Rep α] {xs ys : List α} {k : List α → Res ω} (E : Env K I H σ Γ (some v2 :: some v1 :: ρ) (.im ys :: .im xs :: Θ)) (h : wp ((lCat xs ys).bind k) P X)
    (next : ∀ zs I' H' v, Env K I' H' σ Γ (some v :: ρ) (.im zs :: Θ) → wp (k zs) P X → Q v H') : OpG rCat v1 v2 H Q :=
  cat_of E h fun vs E r h => st_newI E r fun I' H' v E => next _ I' H' v E h
theorem st_catO [Rep α] {xs ys : List α} {k : List α → Res ω} (E : Env K I H σ Γ (some v2 :: some v1 :: ρ) (.im ys :: .im xs :: Θ)) (h : wp ((lCat xs ys).bind k) P X)
    (next : ∀ zs H' v, Env K I H' σ Γ (some v :: ρ) (.own zs :: Θ) → wp (k zs) P X → Q v H') : OpG rCat v1 v2 H Q :=
  cat_of E h fun vs E r h => st_newO E r fun H' v E => next _ H' v E h
theorem rep_of [Rep α] {xs : List α} {m : Int} {k : List α → Res ω} (E : Env K I H σ Γ (some v2 :: some v1 :: ρ) (.im m :: .im xs :: Θ)) (h : wp ((lRep xs m).bind k) P X)
    (next : ∀ vs, Env K I H σ Γ ρ Θ → Paired (fun v x => Rep.rp K I v x) vs (List.replicate m.toNat xs).flatten → wp (k (List.replicate m.toNat xs).flatten) P X → ∀ p, H p = none → Q (.ref p) (upd H p (.lst vs))) : OpG rRep v1 v2 H Q := by
  obtain ⟨e2, _⟩ := E.topS
  subst e2
  obtain ⟨a, vs, rfl, ha, p⟩ := E.pop.topR
  have l1 : vs.length = xs.length := Paired.length p
  unfold lRep at h
  rw [clo_eq] at h
  split at h
  · rename_i hz
    exact ⟨a, m, vs, rfl, rfl, E.same _ _ ha, hz.1, hz.2.1, by rw [l1, ← line_eq]; exact hz.2.2, next _ E.pop.pop (paired_rep p _) h⟩
  · exact h.elim
theorem st_repI [Rep α] {xs : List α} {m : Int} {k : List α → Res ω} (E : Env K I H σ Γ (some v2 :: some v1 :: ρ) (.im m :: .im xs :: Θ)) (h : wp ((lRep xs m).bind k) P X)
    (next : ∀ zs I' H' v, Env K I' H' σ Γ (some v :: ρ) (.im zs :: Θ) → wp (k zs) P X → Q v H') : OpG rRep v1 v2 H Q :=
  rep_of E h fun vs E r h => st_newI E r fun I' H' v E => next _ I' H' v E h
theorem st_repO [Rep α] {xs : List α} {m : Int} {k : List α → Res ω} (E : Env K I H σ Γ (some v2 :: some v1 :: ρ) (.im m :: .im xs :: Θ)) (h : wp ((lRep xs m).bind k) P X)
    (next : ∀ zs H' v, Env K I H' σ Γ (some v :: ρ) (.own zs :: Θ) → wp (k zs) P X → Q v H') : OpG rRep v1 v2 H Q :=
  rep_of E h fun vs E r h => st_newO E r fun H' v E => next _ H' v E h
/-! list(xs), list(t), tuple(xs) -/
abbrev rListOf (K : PySem.W.Frag) : List V → Hp → VK → Prop := fun xs H Q => ∃ p ys, xs = [.ref p] ∧ (SqL K H p ys ∨ SqT K H p ys) ∧ ∀ l, H l = none → Q (.ref l) (upd H l (.lst ys))
theorem st_listI [Rep α] {xs : List α} (E : Env K I H σ Γ (some v :: ρ) (.im xs :: Θ)) (next : ∀ I' H' v, Env K I' H' σ Γ (some v :: ρ) (.im xs :: Θ) → Q v H') : CbG (rListOf K) [v] H Q := by
  obtain ⟨a, vs, rfl, ha, p⟩ := E.topR
  exact ⟨a, vs, rfl, .inl (SqL.of (E.same _ _ ha)), st_newI (Env.pop E) p next⟩
theorem st_listO [Rep α] {xs : List α} (E : Env K I H σ Γ (some v :: ρ) (.im xs :: Θ)) (next : ∀ H' v, Env K I H' σ Γ (some v :: ρ) (.own xs :: Θ) → Q v H') : CbG (rListOf K) [v] H Q := by
  obtain ⟨a, vs, rfl, ha, p⟩ := E.topR
  exact ⟨a, vs, rfl, .inl (SqL.of (E.same _ _ ha)), st_newO (Env.pop E) p next⟩
theorem st_listTI [Rep α] {xs : TupL α} (E : Env K I H σ Γ (some v :: ρ) (.im xs :: Θ)) (next : ∀ I' H' v, Env K I' H' σ Γ (some v :: ρ) (.im xs.l :: Θ) → Q v H') : CbG (rListOf K) [v] H Q := by
  obtain ⟨a, vs, rfl, ha, p⟩ := E.topR
  exact ⟨a, vs, rfl, .inr (same_seqT E.same ha), st_newI (Env.pop E) p next⟩
theorem st_listTO [Rep α] {xs : TupL α} (E : Env K I H σ Γ (some v :: ρ) (.im xs :: Θ)) (next : ∀ H' v, Env K I H' σ Γ (some v :: ρ) (.own xs.l :: Θ) → Q v H') : CbG (rListOf K) [v] H Q := by
  obtain ⟨a, vs, rfl, ha, p⟩ := E.topR
  exact ⟨a, vs, rfl, .inr (same_seqT E.same ha), st_newO (Env.pop E) p next⟩
/-- xs.reverse() -/
theorem st_rev [Rep α] {xs : List α} {l : Addr} (E : Env K I H σ Γ ρ Θ) (hl : σ[i]? = some (some (.ref l))) (hΓ : Γ[i]? = some (.own xs pn)) (next : ∀ H', Env K I H' σ (Γ.set i (.own xs.reverse pn)) ρ Θ → Q .non H') : rReverse (.ref l) [] H Q := by
  obtain ⟨p, vs, hs, hp, _, q, ch, _⟩ := E.ownAt hΓ
  have e : l = p := by
    rw [hl] at hs
    exact V.ref.inj (Option.some.inj (Option.some.inj hs))
  subst e
  have rv : ∀ {vs : List V} {xs : List α}, Paired (fun v x => Rep.rp K I v x) vs xs → Paired (fun v x => Rep.rp K I v x) vs.reverse xs.reverse := fun {vs xs} p => by
    induction p with
    | nil => exact .nil
    | cons r t ih =>
      rw [List.reverse_cons, List.reverse_cons]
      exact paired_app ih (.cons r .nil)
  exact ⟨l, vs, rfl, rfl, hp, next _ (ch (Grow.refl E.same) _ _ (rv q))⟩
end
end M
namespace M
open PySem PySem.Spec PyProof.Rows L2
/-! ### while: fuel tells how many turns at most -/
noncomputable def fuel : Nat := clo 100000
def whileR {ρ S : Type} (c : S → Res Bool) (f : S → Res (Fl ρ S)) : Nat → S → Res (Lp ρ S)
  | 0, _ => .bad
  | n + 1, s => (c s).bind fun b => if b = true then (f s).bind fun y => (match y with
    | .nx s' => whileR c f n s'
    | .bk s' => .ok (.fin s')
    | .rt r => .ok (.ret r)) else .ok (.fin s)
theorem whileR_succ {ρ S : Type} {c : S → Res Bool} {f : S → Res (Fl ρ S)} {n : Nat} {s : S} : whileR c f (n + 1) s = (c s).bind fun b => if b = true then (f s).bind fun y => (match y with
    | .nx s' => whileR c f n s'
    | .bk s' => .ok (.fin s')
    | .rt r => .ok (.ret r)) else .ok (.fin s) := rfl
section
variable {K : PySem.W.Frag} {mg : Str → Option Value} {I I1 H I' H' : Hp} {σ σ' ρ : List (Option V)} {Γ Γ' Γ1 Θ : List Cell} {tt : TT} {tb : TS} {dn db dc : L2.St → Hp → Prop} {dr : VK}
variable {ω : Type} {P : ω → Prop} {X : Exn → Prop}
/-- a while; s: the data at the head -/
theorem st_while {ρτ S : Type} {c : S → Res Bool} {f : S → Res (Fl ρτ S)} {k : Lp ρτ S → Res ω} {s0 : S} {n : Nat} (R : ρτ → Prop) (G : S → List Cell)
    (E : Env K I H σ Γ ρ Θ) (w : Wk Γ (G s0)) (h : wp ((whileR c f n s0).bind k) P X) (ret : ∀ r, wp (k (.ret r)) P X → R r)
    (test : ∀ s I' H' σ' (Q : Bool → Hp → Prop), Env K I' H' σ' (G s) ρ Θ → wp (c s) (fun b => ∀ I'' H'', Env K I'' H'' σ' (G s) ρ Θ → Q b H'') X → tt σ' H' Q)
    (turn : ∀ s I' H' σ' (N B : L2.St → Hp → Prop), Env K I' H' σ' (G s) ρ Θ → wp (f s) (TurnP K G ρ Θ N B R) X → tb ⟨N, dr, B, N⟩ σ' H')
    (rest : ∀ s I' H' σ', Env K I' H' σ' (G s) ρ Θ → wp (k (.fin s)) P X → dn σ' H') : tWhile tt tb ⟨dn, dr, db, dc⟩ σ H := by
  refine ⟨fun m σ' H' => ∃ s I', Env K I' H' σ' (G s) ρ Θ ∧ wp ((whileR c f m s).bind k) P X, ⟨n, s0, I, E.weak w, h⟩, ?_⟩
  rintro m σ' H' ⟨s, I', E', h'⟩
  cases m with
  | zero => exact h'.elim
  | succ m =>
    rw [whileR_succ, Res.bind_assoc] at h'
    refine test s I' H' σ' _ E' (wpb h' fun b h2 I2 H2 E2 => ?_)
    cases b with
    | false => exact rest s I2 H2 σ' E2 h2
    | true =>
      rw [if_pos rfl, Res.bind_assoc] at h2
      refine ⟨fun σ3 H3 => ∃ s I', Env K I' H3 σ3 (G s) ρ Θ ∧ wp ((whileR c f m s).bind k) P X, fun σ3 H3 z => ⟨m, by omega, z⟩, ?_⟩
      refine turn s I2 H2 σ' _ _ E2 (wpb h2 fun y q => ?_)
      cases y with
      | nx s' => exact fun I3 H3 σ3 E3 => ⟨s', I3, E3, q⟩
      | bk s' => exact fun I3 H3 σ3 E3 => rest s' I3 H3 σ3 E3 q
      | rt r => exact ret r q
end
/-- list(range(b)) -/
instance rgDec (b : Int) : Decidable (L2.RgOk 0 b) := by unfold L2.RgOk; exact inferInstance
noncomputable def rngL (b : Int) : Res (List Int) := clo (if L2.RgOk 0 b then .ok (rng 0 b) else .bad)
section
variable {K : PySem.W.Frag} {mg : Str → Option Value} {I I1 H I' H' : Hp} {σ σ' ρ : List (Option V)} {Γ Γ' Γ1 Θ : List Cell} {i j : Nat} {te : TE} {dn db dc : L2.St → Hp → Prop} {dr : VK} {Q : VK} {pn : Option V} {v : V}
variable {ω : Type} {P : ω → Prop} {X : Exn → Prop} {α : Type}
/-- a = b = e -/
theorem st_set2 [Sca α] {m : Res α} {k : α → Res ω} (E : Env K I H σ Γ ρ Θ) (ht : HF K te Γ m) (h : wp (m.bind k) P X) (hi : i < Γ.length) (hj : j < Γ.length)
    (next : ∀ x σ', Env K I H σ' ((Γ.set i (.im x)).set j (.im x)) ρ Θ → wp (k x) P X → dn σ' H) : tAsg2 te (gName i) (gName j) ⟨dn, dr, db, dc⟩ σ H :=
  ht.run X _ E (wpb h fun x h ok => next x _ ((E.setS ok hi rfl).setS ok (by simpa using hj) rfl) h)
/-- sum(xs) of whole numbers -/
theorem hf_sum_of {xs : List Int} (hv : ∀ {I H : Hp} {σ ρ : List (Option V)} {Θ : List Cell}, Env K I H σ Γ ρ Θ → ∃ a vs, σ[j]? = some (some (.ref a)) ∧ H a = some (.lst vs) ∧ Paired (fun v x => Rep.rp K I v x) vs xs) : HF K (tCB (rSum K) (tCons (tVar j) tNil)) Γ (.ok xs.sum) := .mk fun X Q E q => by
  obtain ⟨a, vs, hs, ha, p⟩ := hv E
  exact ⟨_, hs, a, xs, rfl, by rw [← ints_of p]; exact SqL.of ha, q trivial⟩
theorem hf_sumL {xs : List Int} (hΓ : Γ[j]? = some (.im xs)) : HF K (tCB (rSum K) (tCons (tVar j) tNil)) Γ (.ok xs.sum) := hf_sum_of fun E => E.listAt hΓ
theorem hf_sumO {xs : List Int} (hΓ : Γ[j]? = some (.own xs pn)) : HF K (tCB (rSum K) (tCons (tVar j) tNil)) Γ (.ok xs.sum) := hf_sum_of fun E => E.ownAt' hΓ
/-- list(range(n)) -/
theorem rgV_rng (a b : Int) : rgV a b = (rng a b).map V.int := by
  unfold rgV rng
  rw [List.map_map]
  rfl
theorem lstRg_of {m : Res Int} {k : List Int → Res ω} (E : Env K I H σ Γ ρ Θ) (ht : HF K te Γ m) (h : wp (m.bind fun b => (rngL b).bind k) P X)
    (next : ∀ b : Int, wp (k (rng 0 b)) P X → ∀ p, H p = none → Q (.ref p) (upd H p (.lst ((rng 0 b).map V.int)))) : tLstRg (tRg1 te) σ H Q :=
  ht.run X _ E (wpb h fun b h _ => by
    unfold rngL at h
    rw [clo_eq] at h
    by_cases hr : L2.RgOk 0 b
    · rw [if_pos hr] at h
      exact ⟨b, rfl, hr, by rw [rgV_rng]; exact next b h⟩
    · rw [if_neg hr] at h
      exact h.elim)
theorem st_lstRgI {m : Res Int} {k : List Int → Res ω} (E : Env K I H σ Γ ρ Θ) (ht : HF K te Γ m) (h : wp (m.bind fun b => (rngL b).bind k) P X) (next : ∀ xs I' H' v, Env K I' H' σ Γ (some v :: ρ) (.im xs :: Θ) → wp (k xs) P X → Q v H') : tLstRg (tRg1 te) σ H Q :=
  lstRg_of E ht h fun b h => st_newI E (ints_paired _) fun I' H' v E => next _ I' H' v E h
theorem st_lstRgO {m : Res Int} {k : List Int → Res ω} (E : Env K I H σ Γ ρ Θ) (ht : HF K te Γ m) (h : wp (m.bind fun b => (rngL b).bind k) P X) (next : ∀ xs H' v, Env K I H' σ Γ (some v :: ρ) (.own xs :: Θ) → wp (k xs) P X → Q v H') : tLstRg (tRg1 te) σ H Q :=
  lstRg_of E ht h fun b h => st_newO E (ints_paired _) fun H' v E => next _ H' v E h
/-- xs[i], xs owned, its items of any kind -/
theorem st_ixAt [Rep α] {xs : List α} {ti : TE} {m : Res Int} {k : α → Res ω} (hv : ∃ a vs, σ[j]? = some (some (.ref a)) ∧ H a = some (.lst vs) ∧ Paired (fun v x => Rep.rp K I v x) vs xs) (E : Env K I H σ Γ ρ Θ) (hi : HF K ti Γ m) (h : wp (m.bind fun i => (lGet xs i).bind k) P X)
    (next : ∀ x v, Env K I H σ Γ (some v :: ρ) (.im x :: Θ) → wp (k x) P X → Q v H) : tOp (rIxL K) (tVar j) ti σ H Q := by
  obtain ⟨a, vs, hs, ha, p⟩ := hv
  refine ⟨_, hs, hi.run X _ E (wpb h fun i h _ => ?_)⟩
  unfold lGet at h
  cases e : atI xs i with
  | none => rw [e] at h; exact h.elim
  | some x =>
    rw [e] at h
    obtain ⟨w, e2, r⟩ := atI_paired p e
    exact ⟨a, vs, i, w, rfl, rfl, SqL.of ha, e2, next x w (E.push r) h⟩
theorem st_ixOwn [Rep α] {xs : List α} {ti : TE} {m : Res Int} {k : α → Res ω} (E : Env K I H σ Γ ρ Θ) (hΓ : Γ[j]? = some (.own xs pn)) (hi : HF K ti Γ m) (h : wp (m.bind fun i => (lGet xs i).bind k) P X)
    (next : ∀ x v, Env K I H σ Γ (some v :: ρ) (.im x :: Θ) → wp (k x) P X → Q v H) : tOp (rIxL K) (tVar j) ti σ H Q := st_ixAt (E.ownAt' hΓ) E hi h next
def RevG (K : PySem.W.Frag) (x : V) (H1 : Hp) (Q : VK) : Prop := ∃ a xs, x = .ref a ∧ SqL K H1 a xs ∧ ∀ p, H1 p = none → Q (.ref p) (upd H1 p (.lst xs.reverse))
theorem uRevL (h : te σ H fun x H1 => RevG K x H1 Q) : tRevL K te σ H Q := h
theorem paired_rev {f : V → α → Prop} {vs : List V} {xs : List α} (p : Paired f vs xs) : Paired f vs.reverse xs.reverse := by
  induction p with
  | nil => exact .nil
  | cons r t ih =>
    rw [List.reverse_cons, List.reverse_cons]
    exact paired_app ih (.cons r .nil)
theorem st_revLI [Rep α] {xs : List α} (E : Env K I H σ Γ (some v :: ρ) (.im xs :: Θ)) (next : ∀ I' H' v, Env K I' H' σ Γ (some v :: ρ) (.im xs.reverse :: Θ) → Q v H') : RevG K v H Q := by
  obtain ⟨a, vs, rfl, ha, p⟩ := E.topR
  exact ⟨a, vs, rfl, SqL.of (E.same _ _ ha), st_newI (Env.pop E) (paired_rev p) next⟩
theorem st_revLO [Rep α] {xs : List α} (E : Env K I H σ Γ (some v :: ρ) (.im xs :: Θ)) (next : ∀ H' v, Env K I H' σ Γ (some v :: ρ) (.own xs.reverse :: Θ) → Q v H') : RevG K v H Q := by
  obtain ⟨a, vs, rfl, ha, p⟩ := E.topR
  exact ⟨a, vs, rfl, SqL.of (E.same _ _ ha), st_newO (Env.pop E) (paired_rev p) next⟩
end
/-- a call without arguments, what is raised wished for at the caller's slots -/
theorem pe_callS0 {X : Cx} {CX : CXT} {k : Nat} {f : Addr} {fd : FuncData} {ps : List Str} {sp : Sp} {E : L2.St → XK} {x : Str} {p pos : Pos} (F : FnOk X.prog X.w X.K X.mg X.base CX k f fd ps sp) (hr : Room k X.A) (hg : Gl X x) (hm : X.mg x = some (.ref f))
    (hk : PySem.W.keepIn X.K (.ref f) = true) (hb : Binds X.K fd ps []) (hx : ∀ σ, PassesAt CX X σ (E σ)) (hdb : (x == ("__debug__" : Str)) = false := by decide) : PE X (.Call (.Name x p) [] [] pos) (tCallS sp E tNil) := .mk fun pins s σ H Q I h =>
  wpAny_Call_Name_kw (ld_glob I hg hm (PySem.W.callWith_K0 I.kIn hk (run_fnS (us := []) F hr hb (hx σ) I .nil h)) hdb)
end M
/-! ### sorted of tuples of whole numbers -/
namespace SrtM
open PySem PySem.W PySem.Calls PyProof.Rows SrtO
def IsTupI (h : Heap) (v : Value) (ns : List Int) : Prop := ∃ a o xs n, v = .ref a ∧ h.get? a = some o ∧ o.cls = .type "tuple" ∧ o.data = .seq xs n ∧ IntsAre xs.toList ns
theorem IsTupI.keeps {h h' : Heap} {v : Value} {ns : List Int} (p : IsTupI h v ns) (k : ∀ b o, h.get? b = some o → o.cls = .type "tuple" → h'.get? b = some o) : IsTupI h' v ns := by
  obtain ⟨a, o, xs, n, e, ho, hc, hd, i⟩ := p
  exact ⟨a, o, xs, n, e, k _ _ ho hc, hc, hd, i⟩
section
variable {prog : Program} {w : World} {A : Around} {E : Value → Shared → Prop} {s : Shared}
theorem lexI {b fin : Bool} {Q : Bool → Shared → Prop} {xs ys : List Value} {ns ms : List Int} (i : Nat) (hx : IntsAre xs ns) (hy : IntsAre ys ms) (hf : fin = decide (ns.length < ms.length)) (h : Q (HT.lexLt ns ms) s) : KatLex prog w A b fin Q (xs.zip ys) i s := by
  induction hx generalizing ys ms i with
  | nil =>
    rw [List.zip_nil_left]
    cases hy with
    | nil => rw [hf]; exact kat_nil h
    | cons q u hy => rw [hf]; exact kat_nil h
  | @cons p t xs ns hx ih =>
    cases hy with
    | nil =>
      rw [List.zip_nil_right, hf]
      have e : decide ((p :: ns).length < ([] : List Int).length) = false := decide_eq_false (by simp)
      rw [e]
      exact kat_nil h
    | @cons q u ys ms hy =>
      rw [List.zip_cons_cons]
      refine kat_cons (SeqAt.EqAt.int_int p t q u prog w _ _ ?_)
      have hf' : fin = decide (ns.length < ms.length) := by rw [hf]; simp
      rw [HT.lexLt_cons] at h
      refine kat_go (fun e1 => ?_) (fun e1 => ?_)
      · have ex : p = q := by simpa using e1
        rw [if_pos ex] at h
        exact kat_yes (ih (i + 1) hy hf' h)
      · have ex : ¬ p = q := by simpa using e1
        rw [if_neg ex] at h
        exact kat_no (by
          generalize (b && i == 0) = c
          cases c with
          | true => exact oneLt_int h
          | false => exact kat_one _ _ (PyProof.Rows.lt_int (Q := PySem.W.BoolBack Q) h))
theorem tup_cmp {vs : List Value} {k : Value → List Int} (hp : ∀ v ∈ vs, IsTupI s.heap v (k v)) : Cmp prog w A s (tuples' true) (fun p => p.1 ∈ vs) (lt2 fun v u => HT.lexLt (k v) (k u)) := by
  intro p q hm hm'
  have h1 := hp _ hm
  have h2 := hp _ hm'
  show wpAny (model prog w) A (keyLt' (tuples' true) p.1 q.1) (fun r s' => s' = s ∧ r = HT.lexLt (k p.1) (k q.1)) (fun _ _ => False) s
  generalize k p.1 = x at h1 ⊢
  generalize k q.1 = y at h2 ⊢
  obtain ⟨a, o, xs, n, e, ho, hc, hd, i⟩ := h1
  obtain ⟨a', o', xs', n', e', ho', hc', hd', i'⟩ := h2
  rw [e, e']
  refine kat_lt ho hd ho' hd' ?_
  refine lexI 0 i i' ?_ ⟨rfl, rfl⟩
  have e1 := i.length
  have e2 := i'.length
  rw [Array.length_toList] at e1 e2
  rw [e1, e2]
theorem firsts {h : Heap} {k : Value → List Int} : ∀ {vs : List Value}, (∀ v ∈ vs, IsTupI h v (k v) ∧ k v ≠ []) → ∃ fs : List Value, KatTups h vs fs ∧ fs.length = vs.length ∧ ∀ f ∈ fs, ∃ x t, f = Value.int x t
  | [], _ => ⟨[], KatTups.nil, rfl, fun _ hm => by simp at hm⟩
  | v :: vs, hp => by
    obtain ⟨fs, h1, h2, h3⟩ := firsts (vs := vs) fun v' hm => hp v' (List.mem_cons_of_mem _ hm)
    obtain ⟨⟨a, o, xs, n, e0, ho, hc, hd, i⟩, hne⟩ := hp v List.mem_cons_self
    subst e0
    obtain ⟨y, ys, e⟩ : ∃ y ys, xs.toList = y :: ys := by
      cases q : xs.toList with
      | nil =>
        rw [q] at i
        generalize k (.ref a) = kk at i hne
        cases i
        exact absurd rfl hne
      | cons y ys => exact ⟨y, ys, rfl⟩
    obtain ⟨m, t, hy⟩ := i.all y (by rw [e]; exact List.mem_cons_self ..)
    refine ⟨y :: fs, KatTups.cons ho hc hd ?_ h1, by simp [h2], ?_⟩
    · have z := congrArg (fun l : List Value => l[0]?) e
      simpa using z
    · intro f hf
      rcases List.mem_cons.mp hf with rfl | hf
      · exact ⟨m, t, hy⟩
      · exact h3 f hf
theorem tups_sortable {a : Addr} {vs : List Value} {k : Value → List Int} (h0 : 0 < vs.length) (hp : ∀ v ∈ vs, IsTupI s.heap v (k v) ∧ k v ≠ []) (ha : ∀ o, s.heap.get? a = some o → o.cls ≠ .type "tuple") : SortableO prog w A s a vs fun v u => HT.lexLt (k v) (k u) := by
  intro h' keep
  have hp' : ∀ v ∈ vs, IsTupI h' v (k v) ∧ k v ≠ [] := fun v hm => ⟨(hp v hm).1.keeps fun b o e c => keep b o (fun z => by subst z; exact ha o e c) e, (hp v hm).2⟩
  obtain ⟨fs, h1, h2, h3⟩ := firsts hp'
  refine ⟨tuples' true, fun Q E hq => ?_, tup_cmp fun v hm => (hp' v hm).1⟩
  refine kat_kind (T := .type "int") h1 (by omega) (fun f hm => ?_) (by rfl) ?_
  · obtain ⟨x, t, rfl⟩ := h3 f hm
    exact Looks.now
  · have e : (Value.type "int" != Value.type "tuple") = true := by first | decide +kernel | rfl | decide
    rw [e]
    exact hq
theorem sorted_tups {l : Addr} {vs : List Value} {k : Value → List Int} {Q : Value → Shared → Prop} (hl : s.heap.IsList l vs.toArray) (hz : vs.length ≤ sizeLine) (hp : ∀ v ∈ vs, IsTupI s.heap v (k v) ∧ k v ≠ [])
    (h : ∀ (h' : Heap) (d : Addr) (out : List Value), Srtd (fun v u => HT.lexLt (k v) (k u)) out → Stb (fun v u => HT.lexLt (k v) (k u)) out vs → (∀ b o, s.heap.get? b = some o → h'.get? b = some o) → s.heap.objs.size ≤ d → (∃ n, h'.get? d = some (seqObj "list" out.toArray n)) → Q (.ref d) { s with heap := h' }) :
    wpAny (model prog w) A (call (.builtin "sorted") [.ref l]) Q E s := by
  refine sorted_ord (NtL.swo_lexL k) hl hz (fun h2 h₁ a ha kk => ?_) fun out hs hb => ?_
  · refine tups_sortable (s := { s with heap := h₁ }) (by omega) (fun v hm => ⟨(hp v hm).1.keeps fun b o e _ => (kk b o e).2, (hp v hm).2⟩) fun o e => ?_
    have e' : some o = some (seqObj "list" vs.toArray 0) := e.symm.trans ha
    cases e'
    intro c
    exact absurd (Value.type.inj c) (by decide)
  · exact h _ _ out hs hb (fun b o e => sortedAll_old e) (Nat.le_succ _) (sortedAll_at s.heap vs out.toArray)
end
end SrtM
namespace M
open PySem PySem.Spec PyProof.Rows L2
/-! ### sorted of a list of tuples of whole numbers -/
theorem lex_anti : ∀ {a b : List Int}, HT.lexLt a b = false → HT.lexLt b a = false → a = b
  | [], [], _, _ => rfl
  | [], y :: ys, h, _ => by rw [HT.lexLt_nil_cons] at h; cases h
  | x :: xs, [], _, h => by rw [HT.lexLt_nil_cons] at h; cases h
  | x :: xs, y :: ys, h1, h2 => by
    rw [HT.lexLt_cons] at h1 h2
    by_cases e : x = y
    · subst e
      rw [if_pos rfl] at h1 h2
      rw [lex_anti h1 h2]
    · rw [if_neg e] at h1
      rw [if_neg fun q => e q.symm] at h2
      have a := of_decide_eq_false h1
      have b := of_decide_eq_false h2
      omega
def sortL (xs : List (List Int)) : List (List Int) := xs.mergeSort fun a b => !HT.lexLt b a
theorem sortL_perm (xs : List (List Int)) : (sortL xs).Perm xs := List.mergeSort_perm _ _
theorem sortL_ord (xs : List (List Int)) : (sortL xs).Pairwise fun a b => HT.lexLt b a = false := by
  have := List.pairwise_mergeSort (le := fun a b => !HT.lexLt b a) (fun a b c h1 h2 => by
    have h1 : HT.lexLt b a = false := by simpa using h1
    have h2 : HT.lexLt c b = false := by simpa using h2
    simpa using NtL.lex_tr _ _ _ h1 h2) (fun a b => by
    cases e : HT.lexLt a b with
    | false => simp
    | true => rw [NtL.lex_asym _ _ e]; rfl) xs
  exact this.imp fun h => by simpa using h
theorem sortL_uniq {xs ys : List (List Int)} (p : ys.Perm xs) (h : ys.Pairwise fun a b => HT.lexLt b a = false) : ys = sortL xs :=
  List.Perm.eq_of_pairwise (fun _ _ _ _ h1 h2 => lex_anti h2 h1) h (sortL_ord xs) (p.trans (sortL_perm xs).symm)
/-- a tuple of whole numbers -/
def TInt (K : PySem.W.Frag) (H : Hp) (v : V) (ns : List Int) : Prop := ∃ t, v = .ref t ∧ SqT K H t (ns.map V.int)
def rSortTL (K : PySem.W.Frag) : List V → Hp → VK → Prop := fun vs H Q => ∃ (a : Addr) (xs : List V) (nss : List (List Int)) (R : V → List Int → Prop), vs = [V.ref a] ∧ SqL K H a xs ∧ (∀ v ns, R v ns → TInt K H v ns) ∧ Paired R xs nss ∧ (∀ ns ∈ nss, ns ≠ []) ∧
  ∀ ys p, Paired R ys (sortL nss) → H p = none → Q (.ref p) (upd H p (.lst ys))
theorem paired_mem {α β : Type} {R : α → β → Prop} : ∀ {xs : List α} {ys : List β}, Paired R xs ys → ∀ x ∈ xs, ∃ y ∈ ys, R x y
  | _, _, .nil, x, h => by simp at h
  | _, _, .cons r t, x, h => by
    rcases List.mem_cons.mp h with e | e
    · subst e; exact ⟨_, List.mem_cons_self, r⟩
    · obtain ⟨y, hy, q⟩ := paired_mem t x e
      exact ⟨y, List.mem_cons_of_mem _ hy, q⟩
theorem paired_map_eq {α β : Type} {R : α → β → Prop} {k : α → β} (u : ∀ x y, R x y → k x = y) : ∀ {xs : List α} {ys : List β}, Paired R xs ys → xs.map k = ys
  | _, _, .nil => rfl
  | _, _, .cons r t => by rw [List.map_cons, u _ _ r, paired_map_eq u t]
theorem paired_self {α β : Type} {R : α → β → Prop} {k : α → β} : ∀ {xs : List α}, (∀ x ∈ xs, R x (k x)) → Paired R xs (xs.map k)
  | [], _ => .nil
  | x :: xs, h => .cons (h x List.mem_cons_self) (paired_self fun y hy => h y (List.mem_cons_of_mem _ hy))
theorem map_int_inj {a b : List Int} (h : a.map V.int = b.map V.int) : a = b := by
  induction a generalizing b with
  | nil =>
    cases b with
    | nil => rfl
    | cons y ys => cases h
  | cons x xs ih =>
    cases b with
    | nil => cases h
    | cons y ys =>
      rw [List.map_cons, List.map_cons] at h
      obtain ⟨h1, h2⟩ := List.cons.inj h
      rw [V.int.inj h1, ih h2]
theorem cr_sortTL {X : Cx} : CallR X (.builtin "sorted") (rSortTL X.K) := by
  intro pins s σ H vs us Q I r h
  obtain ⟨a, xs, nss, R, rfl, hs, hR, hp, hne, q⟩ := h
  obtain ⟨its, rv, hl, hz⟩ := I.list hs
  obtain ⟨u, rfl, ru⟩ := vals1 r
  obtain rfl : u = Value.ref a := ru
  let k : V → List Int := fun v => @dite _ (∃ ns, TInt X.K H v ns) (Classical.propDecidable _) (fun h => Classical.choose h) (fun _ => [])
  have uk : ∀ v ns, R v ns → k v = ns := fun v ns h => by
    have ex : ∃ ns, TInt X.K H v ns := ⟨ns, hR v ns h⟩
    have e : k v = Classical.choose ex := dif_pos ex
    rw [e]
    obtain ⟨t, e1, q1⟩ := Classical.choose_spec ex
    obtain ⟨t', e2, q2⟩ := hR v ns h
    rw [e1] at e2
    cases e2
    exact map_int_inj (I.tuple_inj q1 q2)
  have hk : ∀ v ∈ xs, R v (k v) ∧ k v ≠ [] := fun v hv => by
    obtain ⟨ns, hn, r⟩ := paired_mem hp v hv
    rw [uk v ns r]
    exact ⟨r, hne ns hn⟩
  obtain ⟨e1, e2⟩ := refs_back rv fun x m => by
    obtain ⟨t, e, _⟩ := hR _ _ (hk x m).1
    exact ⟨t, e⟩
  refine SrtM.sorted_tups (k := fun u => k (backV u)) hl.isList (by rw [← rv.length]; exact hz) (fun v hv => ?_) fun h' d out h1 h2 kp hd hn => ?_
  · obtain ⟨t, rfl⟩ := e2 v hv
    have hm : V.ref t ∈ xs := by rw [e1]; exact List.mem_map.mpr ⟨_, hv, rfl⟩
    obtain ⟨t', e, ht⟩ := hR _ _ (hk _ hm).1
    cases e
    obtain ⟨its', r1, ⟨o, ho, hc, n, hd⟩, _⟩ := I.tuple ht
    exact ⟨⟨t, o, _, n, rfl, ho, hc, hd, intsAre_of r1⟩, (hk _ hm).2⟩
  · have h3 : ∀ u ∈ out, ∃ a, u = Value.ref a := fun u hu => e2 u (h2.perm.mem_iff.mp hu)
    obtain ⟨n, hn⟩ := hn
    have hb : (out.map backV).Perm xs := by
      rw [e1]
      exact h2.perm.map backV
    have hs : ((out.map backV).map k).Pairwise fun a b => HT.lexLt b a = false := by
      rw [List.map_map, List.pairwise_map]
      exact h1
    have e : (out.map backV).map k = sortL nss := sortL_uniq (by rw [← paired_map_eq uk hp]; exact hb.map k) hs
    refine ⟨.ref d, upd H d (.lst (out.map backV)), I.laid (t' := s.toks) kp hd ⟨?_, out, n, vals_back h3, hn⟩, rfl, q _ d ?_ (I.hok.fresh hd)⟩
    · rw [hb.length_eq]
      exact hz
    · rw [← e]
      exact paired_self fun v hv => (hk v (hb.mem_iff.mp hv)).1
/-- sorted(xs), xs a list of tuples of whole numbers, none of them empty -/
noncomputable def lSortT (xs : List (TupL Int)) : Res (List (TupL Int)) := clo (if (xs.all fun x => !x.l.isEmpty) = true then .ok ((sortL (xs.map TupL.l)).map TupL.mk) else .bad)
theorem paired_mapR {α β γ : Type} {R : α → β → Prop} {S : α → γ → Prop} {f : β → γ} (h : ∀ x y, R x y → S x (f y)) : ∀ {xs : List α} {ys : List β}, Paired R xs ys → Paired S xs (ys.map f)
  | _, _, .nil => .nil
  | _, _, .cons r t => .cons (h _ _ r) (paired_mapR h t)
theorem ints_rp {K : PySem.W.Frag} {I : Hp} : ∀ {vs : List V} {ns : List Int}, Paired (fun v x => Rep.rp K I v x) vs ns → vs = ns.map V.int
  | _, _, .nil => rfl
  | _, _, .cons r t => by rw [List.map_cons, ← ints_rp t]; rw [show _ = _ from r.1]; rfl
theorem rp_ints {K : PySem.W.Frag} {I : Hp} : ∀ (ns : List Int), Paired (fun v (x : Int) => Rep.rp K I v x) (ns.map V.int) ns
  | [] => .nil
  | n :: ns => .cons ⟨rfl, trivial⟩ (rp_ints ns)
section
variable {K : PySem.W.Frag} {I H : Hp} {σ ρ : List (Option V)} {Γ Γ' Θ : List Cell} {i j : Nat} {v : V} {pn : Option V} {te tl : TE} {Q : VK} {ω : Type} {P : ω → Prop} {X : Exn → Prop}
theorem sortT_of {a : Addr} {vs : List V} {xs : List (TupL Int)} {k : List (TupL Int) → Res ω} (e : I a = some (.lst vs) ∨ H a = some (.lst vs)) (s : Same I H) (p : Paired (fun v x => Rep.rp K I v x) vs xs) (h : wp ((lSortT xs).bind k) P X)
    (next : ∀ xs', wp (k xs') P X → ∀ ys p, Paired (fun v x => Rep.rp K I v x) ys xs' → H p = none → Q (.ref p) (upd H p (.lst ys))) : CbG (rSortTL K) [.ref a] H Q := by
  unfold lSortT at h
  rw [clo_eq] at h
  by_cases hne : (xs.all fun x => !x.l.isEmpty) = true
  · rw [if_pos hne] at h
    refine ⟨a, vs, xs.map TupL.l, fun v ns => Rep.rp K I v (TupL.mk ns), rfl, ?_, ?_, ?_, ?_, fun ys p hp np => ?_⟩
    · rcases e with e | e
      · exact SqL.of (s _ _ e)
      · exact SqL.of e
    · rintro v ns ⟨t, ws, e1, e2, e3⟩
      refine ⟨t, e1, ?_⟩
      rw [← ints_rp e3]
      exact same_seqT s e2
    · exact paired_mapR (f := TupL.l) (fun _ _ h => h) p
    · intro ns hn
      obtain ⟨x, hx, rfl⟩ := List.mem_map.mp hn
      have := List.all_eq_true.mp hne x hx
      intro z
      rw [z] at this
      cases this
    · exact next _ h ys p (paired_mapR (f := TupL.mk) (fun _ _ h => h) hp) np
  · rw [if_neg hne] at h
    exact h.elim
theorem st_sortTO {xs : List (TupL Int)} {k : List (TupL Int) → Res ω} (E : Env K I H σ Γ (some v :: ρ) (.im xs :: Θ)) (h : wp ((lSortT xs).bind k) P X) (next : ∀ xs' H' v, Env K I H' σ Γ (some v :: ρ) (.own xs' :: Θ) → wp (k xs') P X → Q v H') : CbG (rSortTL K) [v] H Q := by
  obtain ⟨a, vs, rfl, ha, p⟩ := E.topR
  exact sortT_of (.inl ha) E.same p h fun xs' h ys q hp np => st_newO (Env.pop E) hp (fun H' v E => next xs' H' v E h) q np
theorem st_sortTI {xs : List (TupL Int)} {k : List (TupL Int) → Res ω} (E : Env K I H σ Γ (some v :: ρ) (.im xs :: Θ)) (h : wp ((lSortT xs).bind k) P X) (next : ∀ xs' I' H' v, Env K I' H' σ Γ (some v :: ρ) (.im xs' :: Θ) → wp (k xs') P X → Q v H') : CbG (rSortTL K) [v] H Q := by
  obtain ⟨a, vs, rfl, ha, p⟩ := E.topR
  exact sortT_of (.inl ha) E.same p h fun xs' h ys q hp np => st_newI (Env.pop E) hp (fun I' H' v E => next xs' I' H' v E h) q np
/-! ### sorted of whole numbers -/
noncomputable def lSortI (xs : List Int) : Res (List Int) := .ok (xs.mergeSort fun a b => decide (a ≤ b))
theorem sortI_uniq {xs ys : List Int} (p : ys.Perm xs) (h : ys.Pairwise (· ≤ ·)) : ys = xs.mergeSort fun a b => decide (a ≤ b) := by
  have q := List.pairwise_mergeSort (le := fun a b : Int => decide (a ≤ b)) (fun a b c h1 h2 => by
    have h1 := of_decide_eq_true h1
    have h2 := of_decide_eq_true h2
    exact decide_eq_true (by omega)) (fun a b => by
    by_cases e : a ≤ b
    · rw [decide_eq_true e]; rfl
    · rw [decide_eq_false e, decide_eq_true (by omega : b ≤ a)]; rfl) xs
  exact List.Perm.eq_of_pairwise (le := (· ≤ ·)) (fun a b _ _ h1 h2 => by omega) h (q.imp fun h => of_decide_eq_true h) (p.trans (List.mergeSort_perm _ _).symm)
theorem st_sortIO {xs : List Int} {k : List Int → Res ω} (E : Env K I H σ Γ (some v :: ρ) (.im xs :: Θ)) (h : wp ((lSortI xs).bind k) P X) (next : ∀ xs' H' v, Env K I H' σ Γ (some v :: ρ) (.own xs' :: Θ) → wp (k xs') P X → Q v H') : CbG (rSortedI K) [v] H Q := by
  obtain ⟨a, vs, rfl, ha, p⟩ := E.topR
  refine ⟨a, xs, rfl, ?_, fun ns' q p1 p2 np => ?_⟩
  · rw [← ints_rp p]
    exact SqL.of (E.same _ _ ha)
  · rw [sortI_uniq p1 p2]
    exact st_newO (Env.pop E) (rp_ints _) (fun H' v E => next _ H' v E h) q np
theorem st_sortII {xs : List Int} {k : List Int → Res ω} (E : Env K I H σ Γ (some v :: ρ) (.im xs :: Θ)) (h : wp ((lSortI xs).bind k) P X) (next : ∀ xs' I' H' v, Env K I' H' σ Γ (some v :: ρ) (.im xs' :: Θ) → wp (k xs') P X → Q v H') : CbG (rSortedI K) [v] H Q := by
  obtain ⟨a, vs, rfl, ha, p⟩ := E.topR
  refine ⟨a, xs, rfl, ?_, fun ns' q p1 p2 np => ?_⟩
  · rw [← ints_rp p]
    exact SqL.of (E.same _ _ ha)
  · rw [sortI_uniq p1 p2]
    exact st_newI (Env.pop E) (rp_ints _) (fun I' H' v E => next _ I' H' v E h) q np
end
end M
namespace M
open PySem PySem.Spec PyProof.Rows L2
section
variable {K : PySem.W.Frag} {I H : Hp} {σ ρ : List (Option V)} {Γ Γ' Θ : List Cell} {i j : Nat} {v : V} {pn : Option V} {te tl : TE} {Q : VK} {ω : Type} {P : ω → Prop} {X : Exn → Prop}
/-! ### tuples: shown, taken apart -/
def TpG (vs : List V) (H : Hp) (Q : VK) : Prop := vs.length ≤ sizeLine ∧ ∀ p, H p = none → Q (.ref p) (upd H p (.tup vs))
theorem uTpl {t : TA} (h : t σ H fun xs H1 => TpG xs H1 Q) : tTup t σ H Q := h
theorem st_tupL {α : Type} [Rep α] (vs : List V) (xs : List α) (hl : vs.length = xs.length) (hz : vs.length ≤ line) (E : Env K I H σ Γ ((vs.map some).reverse ++ ρ) ((xs.map Cell.im).reverse ++ Θ))
    (next : ∀ I' H' v, Env K I' H' σ Γ (some v :: ρ) (.im (TupL.mk xs) :: Θ) → Q v H') : TpG vs H Q := by
  refine ⟨line_of hz, fun p hp => ?_⟩
  obtain ⟨pr, E2⟩ := E.collect hl
  exact next _ _ _ ((E2.grow (Grow.newI (u := .tup vs) E2.same hp)).push ⟨p, vs, rfl, .inl (.inl upd_same), Paired.monoR (fun _ _ z => Rep.mono (fun a o e => by rw [upd_ne (ne_of_none e (E2.2.2.none_of hp))]; exact e) z) pr⟩)
theorem st_tup2 {α β : Type} [Rep α] [Rep β] {x : α} {y : β} {v1 v2 : V} (E : Env K I H σ Γ (some v2 :: some v1 :: ρ) (.im y :: .im x :: Θ)) (next : ∀ I' H' v, Env K I' H' σ Γ (some v :: ρ) (.im (x, y) :: Θ) → Q v H') : TpG [v1, v2] H Q := by
  refine ⟨line_of (by decide : (2 : Nat) ≤ line), fun p hp => ?_⟩
  have r2 := E.topR
  have r1 := E.pop.topR
  have E2 := E.pop.pop
  have m : ∀ {γ : Type} [Rep γ] {v : V} {z : γ}, Rep.rp K I v z → Rep.rp K (upd I p (.tup [v1, v2])) v z := fun q => Rep.mono (fun a o e => by rw [upd_ne (ne_of_none e (E2.2.2.none_of hp))]; exact e) q
  exact next _ _ _ ((E2.grow (Grow.newI (u := .tup [v1, v2]) E2.same hp)).push ⟨p, v1, v2, rfl, .inl (.inl upd_same), m r1, m r2⟩)
end
end M
namespace M
open PySem PySem.Spec PyProof.Rows L2
section
variable {K : PySem.W.Frag} {I H : Hp} {σ ρ : List (Option V)} {Γ Γ' Θ : List Cell} {i j : Nat} {v : V} {pn : Option V} {te tl : TE} {Q : VK} {ω : Type} {P : ω → Prop} {X : Exn → Prop}
theorem uTupT {n : Nat} {t : TGs} {Q : L2.St → Hp → Prop} (h : ∃ a xs, v = .ref a ∧ SqT K H a xs ∧ xs.length = n ∧ t xs σ H Q) : gTup K n t v σ H Q := h
theorem uGC {t : TG} {u : TGs} {r : List V} {Q : L2.St → Hp → Prop} (h : t v σ H fun σ' H' => u r σ' H' Q) : gCons t u (v :: r) σ H Q := ⟨v, r, rfl, h⟩
theorem uGN {Q : L2.St → Hp → Prop} (h : Q σ H) : gNil [] σ H Q := ⟨rfl, h⟩
def unp2 {α : Type} (x : TupL α) : Res (α × α) := match x.l with | [a, b] => .ok (a, b) | _ => .bad
def unp3 {α : Type} (x : TupL α) : Res (α × α × α) := match x.l with | [a, b, c] => .ok (a, b, c) | _ => .bad
theorem st_unp2 {α : Type} [Rep α] {t : TGs} {x : TupL α} {k : α × α → Res ω} {Q : L2.St → Hp → Prop} (E : Env K I H σ Γ (some v :: ρ) (.im x :: Θ)) (h : wp ((unp2 x).bind k) P X)
    (next : ∀ a b va vb, Env K I H σ Γ (some va :: some vb :: ρ) (.im a :: .im b :: Θ) → wp (k (a, b)) P X → t [va, vb] σ H Q) : gTup K 2 t v σ H Q := by
  obtain ⟨p, vs, e, hq, pr⟩ := E.topR
  unfold unp2 at h
  obtain ⟨l⟩ := x
  dsimp only at pr h
  cases pr with
  | nil => exact h.elim
  | cons r1 pr =>
    cases pr with
    | nil => exact h.elim
    | cons r2 pr =>
      cases pr with
      | nil => exact ⟨p, _, e, same_seqT E.same hq, rfl, next _ _ _ _ ((E.pop.push r2).push r1) h⟩
      | cons r3 pr => exact h.elim
theorem st_unp3 {α : Type} [Rep α] {t : TGs} {x : TupL α} {k : α × α × α → Res ω} {Q : L2.St → Hp → Prop} (E : Env K I H σ Γ (some v :: ρ) (.im x :: Θ)) (h : wp ((unp3 x).bind k) P X)
    (next : ∀ a b c va vb vc, Env K I H σ Γ (some va :: some vb :: some vc :: ρ) (.im a :: .im b :: .im c :: Θ) → wp (k (a, b, c)) P X → t [va, vb, vc] σ H Q) : gTup K 3 t v σ H Q := by
  obtain ⟨p, vs, e, hq, pr⟩ := E.topR
  unfold unp3 at h
  obtain ⟨l⟩ := x
  dsimp only at pr h
  cases pr with
  | nil => exact h.elim
  | cons r1 pr =>
    cases pr with
    | nil => exact h.elim
    | cons r2 pr =>
      cases pr with
      | nil => exact h.elim
      | cons r3 pr =>
        cases pr with
        | nil => exact ⟨p, _, e, same_seqT E.same hq, rfl, next _ _ _ _ _ _ (((E.pop.push r3).push r2).push r1) h⟩
        | cons r4 pr => exact h.elim
theorem st_unpP {α β : Type} [Rep α] [Rep β] {t : TGs} {x : α × β} {Q : L2.St → Hp → Prop} (E : Env K I H σ Γ (some v :: ρ) (.im x :: Θ))
    (next : ∀ va vb, Env K I H σ Γ (some va :: some vb :: ρ) (.im x.1 :: .im x.2 :: Θ) → t [va, vb] σ H Q) : gTup K 2 t v σ H Q := by
  obtain ⟨p, v1, v2, e, hq, r1, r2⟩ := E.topR
  exact ⟨p, _, e, same_seqT E.same hq, rfl, next _ _ ((E.pop.push r2).push r1)⟩
end
end M
namespace M
open PySem PySem.Spec PyProof.Rows L2
section
variable {K : PySem.W.Frag} {I H : Hp} {σ ρ : List (Option V)} {Γ Γ' Θ : List Cell} {i j : Nat} {v : V} {pn : Option V} {te tl : TE} {Q : VK} {ω : Type} {P : ω → Prop} {X : Exn → Prop}
/-- t[i], both on the stack -/
theorem st_ixTup {α : Type} [Rep α] {v1 v2 : V} {x : TupL α} {i : Int} {k : α → Res ω} (E : Env K I H σ Γ (some v2 :: some v1 :: ρ) (.im i :: .im x :: Θ)) (h : wp ((lGet x.l i).bind k) P X)
    (next : ∀ y v, Env K I H σ Γ (some v :: ρ) (.im y :: Θ) → wp (k y) P X → Q v H) : OpG (rIxT K) v1 v2 H Q := by
  obtain ⟨e2, _⟩ := E.topS
  subst e2
  obtain ⟨a, vs, e, ha, p⟩ := E.pop.topR
  subst e
  unfold lGet at h
  cases e : atI x.l i with
  | none => rw [e] at h; exact h.elim
  | some y =>
    rw [e] at h
    obtain ⟨w, e2, r⟩ := atI_paired p e
    exact ⟨a, vs, i, w, rfl, rfl, same_seqT E.same ha, e2, next y w (E.pop.pop.push r) h⟩
theorem st_lenTup {α : Type} [Rep α] {x : TupL α} (E : Env K I H σ Γ (some v :: ρ) (.im x :: Θ)) (next : ∀ v, Env K I H σ Γ (some v :: ρ) (.im ((x.l.length : Nat) : Int) :: Θ) → Q v H) : CbG (rLen2 K) [v] H Q := by
  obtain ⟨a, vs, e, ha, p⟩ := E.topR
  subst e
  have hl : vs.length = x.l.length := Paired.length p
  exact ⟨a, vs, rfl, .inr (same_seqT E.same ha), next _ (E.pop.pushS (a := ((vs.length : Nat) : Int)) trivial |> fun z => by rw [← hl]; exact z)⟩
theorem hf_ixT {α : Type} [Sca α] {x : TupL α} {ti : TE} {m : Res Int} (hΓ : Γ[j]? = some (.im x)) (hi : HF K ti Γ m) : HF K (tOp (rIxT K) (tVar j) ti) Γ (m.bind fun i => lGet x.l i) := .mk fun X Q E q => by
  obtain ⟨v, hs, a, vs, e, ha, p⟩ := E.get hΓ
  subst e
  refine ⟨_, hs, hi.run X _ E (wpb q fun i q _ => ?_)⟩
  unfold lGet at q
  cases e : atI x.l i with
  | none => rw [e] at q; exact q.elim
  | some y =>
    rw [e] at q
    obtain ⟨w, e2, r⟩ := atI_paired p e
    refine ⟨a, vs, i, w, rfl, rfl, same_seqT E.same ha, e2, ?_⟩
    rw [r.1]
    exact q r.2
theorem hf_ixTp {α : Type} [Sca α] {x : TupL α} {ti : TE} {i : Int} (hΓ : Γ[j]? = some (.im x)) (hi : HF K ti Γ (.ok i)) : HF K (tOp (rIxT K) (tVar j) ti) Γ (lGet x.l i) := hf_ixT hΓ hi
theorem tyx_tup {a : Addr} {xs : List V} (h : SqT K H a xs) : TyX K H (.ref a) (.type "tuple") := by
  rcases h with (h | ⟨o, h⟩) | ⟨o, its, n, hk, hc, _⟩
  · exact .base (.tup h)
  · exact .fTuple h
  · exact .kTuple hk hc
theorem hf_isTupL {α : Type} [Rep α] {T : String} {b : Bool} {xs : TupL α} (hΓ : Γ[i]? = some (.im xs)) (e : ∀ K, PySem.W.kitOne K (.type "tuple") (.type T) = some b) : HF K (tIsi K i T) Γ (.ok b) := .mk fun X Q E q => by
  obtain ⟨v, hs, a, vs, e1, ha, _⟩ := E.get hΓ
  subst e1
  exact ⟨_, hs, _, _, _, _, b, rfl, .ty T, tyx_tup (same_seqT E.same ha), e K, q trivial⟩
theorem hf_isTup2 {α β : Type} [Rep α] [Rep β] {T : String} {b : Bool} {xs : α × β} (hΓ : Γ[i]? = some (.im xs)) (e : ∀ K, PySem.W.kitOne K (.type "tuple") (.type T) = some b) : HF K (tIsi K i T) Γ (.ok b) := .mk fun X Q E q => by
  obtain ⟨v, hs, a, v1, v2, e1, ha, _⟩ := E.get hΓ
  subst e1
  exact ⟨_, hs, _, _, _, _, b, rfl, .ty T, tyx_tup (same_seqT E.same ha), e K, q trivial⟩
theorem hf_isTup3 {α β γ : Type} [Rep α] [Rep β] [Rep γ] {T : String} {b : Bool} {xs : T3 α β γ} (hΓ : Γ[i]? = some (.im xs)) (e : ∀ K, PySem.W.kitOne K (.type "tuple") (.type T) = some b) : HF K (tIsi K i T) Γ (.ok b) := .mk fun X Q E q => by
  obtain ⟨v, hs, a, v1, v2, v3, e1, ha, _⟩ := E.get hΓ
  subst e1
  exact ⟨_, hs, _, _, _, _, b, rfl, .ty T, tyx_tup (same_seqT E.same ha), e K, q trivial⟩
/-! ### a text's find from a place on -/
noncomputable def xFind (a b : Tx) (i : Int) : Int := Txt.find3 (mkS a) (mkS b) i
def rFind3 : V → List V → Hp → VK → Prop := fun x xs H Q => ∃ (a b : Str) (i : Int), x = .str a ∧ xs = [.str b, .int i] ∧ Q (.int (Txt.find3 a b i)) H
theorem hf_find3 {ta tb tc : TE} {m1 m2 : Res Tx} {m3 : Res Int} (h1 : HF K ta Γ m1) (h2 : HF K tb Γ m2) (h3 : HF K tc Γ m3) : HF K (tBM K "str" rFind3 ta (tCons tb (tCons tc tNil))) Γ (m1.bind fun a => m2.bind fun b => m3.bind fun i => .ok (xFind a b i)) := .mk fun X Q E q =>
  h1.run X _ E (wpb q fun a q oa => ⟨rfl, h2.run X _ E (wpb q fun b q ob => h3.run X _ E (wpb q fun i q oi => ⟨_, _, i, rfl, rfl, q trivial⟩))⟩)
/-! ### if-else with calls, as a value -/
theorem uTif {tt : TT} {ta tb : TE} (h : tt σ H fun c H1 => if c = true then ta σ H1 Q else tb σ H1 Q) : tIf tt ta tb σ H Q := h
theorem st_itex {α : Type} {b : Bool} {ta tb : TE} {mA mB : Res α} {k : α → Res ω} (oc : α → Cell) (E : Env K I H σ Γ ρ Θ) (h : wp ((if b = true then mA else mB).bind k) P X)
    (h1 : wp mA (fun a => ∀ I' H' v, Env K I' H' σ Γ (some v :: ρ) (oc a :: Θ) → Q v H') X → ta σ H Q) (h2 : wp mB (fun a => ∀ I' H' v, Env K I' H' σ Γ (some v :: ρ) (oc a :: Θ) → Q v H') X → tb σ H Q)
    (next : ∀ a I' H' v, Env K I' H' σ Γ (some v :: ρ) (oc a :: Θ) → wp (k a) P X → Q v H') : if b = true then ta σ H Q else tb σ H Q := by
  cases b with
  | true => exact h1 (wpb h fun a h I' H' v E => next a I' H' v E h)
  | false => exact h2 (wpb h fun a h I' H' v E => next a I' H' v E h)
end
end M
namespace M
open PySem PySem.Spec PyProof.Rows L2
/-! ### calls with defaults -/
section
variable {X : Cx} {CX : CXT} {k : Nat} {f : Addr} {fd : FuncData} {ps : List Str} {sp : Sp} {E : L2.St → XK} {x : Str} {p pos : Pos} {e : Expr} {es : List Expr} {t : TA} {ds : List Value} {dvs : List V}
def tCallD (sp : Sp) (dvs : List V) (E : L2.St → XK) (t : TA) : TE := fun σ H Q => t σ H fun vs H1 => sp (vs ++ dvs) H1 Q (E σ)
theorem run_fnD {pins : List (Addr × Obj)} {σ : L2.St} {H : Hp} {s : Shared} {Q : VK} {us : List Value} {vs : List V} (F : FnOk X.prog X.w X.K X.mg X.base CX k f fd ps sp) (hr : Room k X.A) (hb : Binds X.K fd ps ds) (rd : Vals dvs ds) (hx : PassesAt CX X σ (E σ))
    (I : Inv X pins σ H s) (r : Vals vs us) (h : sp (vs ++ dvs) H Q (E σ)) : wpAny (model X.prog X.w) X.A (call (.ref f) us) (EP X pins σ Q) X.xe s := by
  have r2 := r.append rd
  have hl : (us ++ ds).length = ps.length := by rw [← r2.length]; exact F.len _ _ _ _ h
  have b := hb s us I.kIn hl
  refine wpAny_call (codeAny_mono (F.run X.A X.stack s H ⟨us, []⟩ (us ++ ds) (vs ++ dvs) Q (E σ) hr I.env0 b r2 h) fun r s' hq => ?_)
  cases r with
  | error e => exact hx pins H s e s' I hq
  | ok fl =>
    cases fl with
    | ret u => exact I.after hq
    | next => exact False.elim hq
    | brk => exact False.elim hq
    | cont => exact False.elim hq
theorem pe_callD (F : FnOk X.prog X.w X.K X.mg X.base CX k f fd ps sp) (hr : Room k X.A) (hg : Gl X x) (hm : X.mg x = some (.ref f)) (hk : PySem.W.keepIn X.K (.ref f) = true) (hb : Binds X.K fd ps ds) (rd : Vals dvs ds) (hx : ∀ σ, PassesAt CX X σ (E σ))
    (ha : PA X (e :: es) t) (hdb : (x == ("__debug__" : Str)) = false := by decide) (he : starEach (e :: es) X.env = (false, eval e X.env) :: starEach es X.env := by rfl) (hpl : (backTo pos (starEach es X.env)).any (·.1) = false := by rfl) :
    PE X (.Call (.Name x p) (e :: es) [] pos) (tCallD sp dvs E t) := by
  refine ⟨fun pins s σ H Q I h => ?_⟩
  refine wpAny_Call_Name_kw (ld_glob I hg hm ?_ hdb)
  refine PySem.W.callWith_K (h₀ := X.base) I.ok.mod.kin hk (thn (ha.run pos pins s σ H _ I h) fun us s1 ⟨vs, H1, I1, r, q⟩ => ⟨I1.kIn, ?_⟩) he hpl
  exact run_fnD F hr hb rd (hx σ) I1 r q
theorem uCallD {σ : L2.St} {H : Hp} {Q : VK} (h : t σ H fun vs H1 => sp (vs ++ dvs) H1 Q (E σ)) : tCallD sp dvs E t σ H Q := h
end
/-- keyword-only parameters by their defaults, no other defaults -/
theorem binds_kd {K : PySem.W.Frag} {x qual : Str} {st : Stmt} {f : Addr} {fd : FuncData} {ps : List Str} {D : Addr} (kws : List (Str × V)) (hk : kws ≠ []) (n : Nat) (hn : n + kws.length = ps.length)
    (hf : ∃ (oc : Value) (od : Option Addr) (doc pm : Value) (an : Option Addr) (cdv ct : Value) (osl : Array (Option Value)), fd = PySem.W.fnOf x qual (defArgs st) (defBody st) (defScope st) .none (.ref D) doc pm an cdv ct ∧ K.lookup f = some ⟨oc, od, .func fd, osl⟩ ∧ PySem.W.codeIn K cdv qual = true)
    (kp : PySem.W.keepIn K (.ref f) = true) (hq : ∀ q ∈ kws, ∃ u, PySem.W.nsIn K D q.1 = some (some u) ∧ RelV q.2 u)
    (h : ∀ (D : Addr) (doc pm : Value) (an : Option Addr) (cdv ct : Value) (us ks : List Value), us.length = n → ks.length = kws.length →
      KwChain D ((kws.map (·.1)).zip ks) (bindArgs (PySem.W.fnOf x qual (defArgs st) (defBody st) (defScope st) .none (.ref D) doc pm an cdv ct) ⟨us, []⟩) (ps.zip (us ++ ks))) : ∃ ds, Vals (kws.map (·.2)) ds ∧ Binds K fd ps ds := by
  obtain ⟨oc, od, doc, pm, an, cdv, ct, osl, e1, e2, e3⟩ := hf
  have F : FunD K x qual (defArgs st) (defBody st) (defScope st) [] kws f fd := ⟨⟨oc, od, .none, .ref D, doc, pm, an, cdv, ct, osl, e1, e2, e3, .inl ⟨rfl, rfl⟩, .inr ⟨D, rfl, hq⟩⟩, kp⟩
  exact F.binds0 n hk hn h
/-! ### ord, in, tuple, list(range(a, b)) -/
def xOrd (w : Tx) : Res Int := match w with | [c] => .ok (c : Int) | _ => .bad
theorem hc_ord {x : Tx} : HC1 (fun xs H Q => ∃ z : Str, xs = [V.str z] ∧ z.length = 1 ∧ Q (.int (z.cps.getD 0 0 : Nat)) H) x (xOrd x) := .mk fun X Q ox q => by
  unfold xOrd at q
  match x, q with
  | [c], q => exact ⟨mkS [c], rfl, rfl, q trivial⟩
  | [], q => exact q.elim
  | _ :: _ :: _, q => exact q.elim
section
variable {K : PySem.W.Frag} {I H : Hp} {σ ρ : List (Option V)} {Γ Γ' Θ : List Cell} {i j : Nat} {v : V} {pn : Option V} {te tl : TE} {Q : VK} {ω : Type} {P : ω → Prop} {X : Exn → Prop}
theorem inV_ints (x : Int) (ns : List Int) : inV (.int x) (ns.map V.int) = decide (x ∈ ns) := by
  unfold inV
  induction ns with
  | nil => rfl
  | cons n ns ih =>
    rw [List.map_cons, List.any_cons, ih]
    have e : eqV (.int n) (.int x) = decide (n = x) := by
      show (n == x) = _
      by_cases q : n = x
      · subst q; simp
      · simp [q]
    rw [e]
    by_cases q : n = x
    · subst q; simp
    · have : ¬ x = n := fun z => q z.symm
      simp [q, this]
theorem flat_ints (ns : List Int) : (ns.map V.int).all flatV = true := by
  rw [List.all_eq_true]
  intro x hx
  obtain ⟨n, _, rfl⟩ := List.mem_map.mp hx
  rfl
theorem hf_in_of {xs : List Int} {m : Res Int} (hv : ∀ {I H : Hp} {σ ρ : List (Option V)} {Θ : List Cell}, Env K I H σ Γ ρ Θ → ∃ a vs, σ[j]? = some (some (.ref a)) ∧ H a = some (.lst vs) ∧ Paired (fun v x => Rep.rp K I v x) vs xs) (ht : HF K te Γ m) :
    HF K (tOp (rIn K false) te (tVar j)) Γ (m.bind fun x => .ok (decide (x ∈ xs))) := .mk fun X Q E q => ht.run X _ E (wpb q fun x q _ => by
  obtain ⟨a, vs, hs, ha, p⟩ := hv E
  have e := ints_rp p
  subst e
  refine ⟨_, hs, a, _, rfl, .inl (SqL.of ha), rfl, flat_ints _, ?_⟩
  show Q (.bl (inV (.int x) (xs.map V.int))) _
  rw [inV_ints]
  exact q trivial)
theorem hf_inL {xs : List Int} {m : Res Int} (hΓ : Γ[j]? = some (.im xs)) (ht : HF K te Γ m) : HF K (tOp (rIn K false) te (tVar j)) Γ (m.bind fun x => .ok (decide (x ∈ xs))) := hf_in_of (fun E => E.listAt hΓ) ht
theorem hf_inO {xs : List Int} {m : Res Int} (hΓ : Γ[j]? = some (.own xs pn)) (ht : HF K te Γ m) : HF K (tOp (rIn K false) te (tVar j)) Γ (m.bind fun x => .ok (decide (x ∈ xs))) := hf_in_of (fun E => E.ownAt' hΓ) ht
abbrev rTupOf (K : PySem.W.Frag) : List V → Hp → VK → Prop := fun xs H Q => ∃ p ys, xs = [.ref p] ∧ ((SqL K H p ys ∧ ∀ l, H l = none → Q (.ref l) (upd H l (.tup ys))) ∨ (SqT K H p ys ∧ Q (.ref p) H))
theorem st_tupleOf {α : Type} [Rep α] {xs : List α} (E : Env K I H σ Γ (some v :: ρ) (.im xs :: Θ)) (next : ∀ I' H' v, Env K I' H' σ Γ (some v :: ρ) (.im (TupL.mk xs) :: Θ) → Q v H') : CbG (rTupOf K) [v] H Q := by
  obtain ⟨a, vs, rfl, ha, pr⟩ := E.topR
  refine ⟨a, vs, rfl, .inl ⟨SqL.of (E.same _ _ ha), fun p hp => ?_⟩⟩
  have E2 := E.pop
  exact next _ _ _ ((E2.grow (Grow.newI (u := .tup vs) E2.same hp)).push ⟨p, vs, rfl, .inl (.inl upd_same), Paired.monoR (fun _ _ z => Rep.mono (fun a o e => by rw [upd_ne (ne_of_none e (E2.2.2.none_of hp))]; exact e) z) pr⟩)
theorem st_tupleOfT {α : Type} [Rep α] {xs : TupL α} (E : Env K I H σ Γ (some v :: ρ) (.im xs :: Θ)) (next : ∀ v, Env K I H σ Γ (some v :: ρ) (.im xs :: Θ) → Q v H) : CbG (rTupOf K) [v] H Q := by
  obtain ⟨a, vs, rfl, ha, pr⟩ := E.topR
  exact ⟨a, vs, rfl, .inr ⟨same_seqT E.same ha, next _ E⟩⟩
noncomputable def rngL2 (a b : Int) : Res (List Int) := clo (if -1000000 ≤ a ∧ a ≤ 1000000 ∧ -1000000 ≤ b ∧ b ≤ 1000000 then .ok (rng a b) else .bad)
theorem lstRg2_of {ta tb : TE} {m1 m2 : Res Int} {k : List Int → Res ω} (E : Env K I H σ Γ ρ Θ) (h1 : HF K ta Γ m1) (h2 : HF K tb Γ m2) (h : wp (m1.bind fun a => m2.bind fun b => (rngL2 a b).bind k) P X)
    (next : ∀ a b : Int, wp (k (rng a b)) P X → ∀ p, H p = none → Q (.ref p) (upd H p (.lst ((rng a b).map V.int)))) : tLstRg (tRg2 ta tb) σ H Q :=
  h1.run X _ E (wpb h fun a h _ => h2.run X _ E (wpb h fun b h _ => by
    unfold rngL2 at h
    rw [clo_eq] at h
    by_cases hr : -1000000 ≤ a ∧ a ≤ 1000000 ∧ -1000000 ≤ b ∧ b ≤ 1000000
    · rw [if_pos hr] at h
      exact ⟨a, b, rfl, rfl, by unfold L2.RgOk; omega, by rw [rgV_rng]; exact next a b h⟩
    · rw [if_neg hr] at h
      exact h.elim))
theorem st_lstRg2I {ta tb : TE} {m1 m2 : Res Int} {k : List Int → Res ω} (E : Env K I H σ Γ ρ Θ) (h1 : HF K ta Γ m1) (h2 : HF K tb Γ m2) (h : wp (m1.bind fun a => m2.bind fun b => (rngL2 a b).bind k) P X) (next : ∀ xs I' H' v, Env K I' H' σ Γ (some v :: ρ) (.im xs :: Θ) → wp (k xs) P X → Q v H') : tLstRg (tRg2 ta tb) σ H Q :=
  lstRg2_of E h1 h2 h fun a b h => st_newI E (rp_ints _) fun I' H' v E => next _ I' H' v E h
theorem st_lstRg2O {ta tb : TE} {m1 m2 : Res Int} {k : List Int → Res ω} (E : Env K I H σ Γ ρ Θ) (h1 : HF K ta Γ m1) (h2 : HF K tb Γ m2) (h : wp (m1.bind fun a => m2.bind fun b => (rngL2 a b).bind k) P X) (next : ∀ xs H' v, Env K I H' σ Γ (some v :: ρ) (.own xs :: Θ) → wp (k xs) P X → Q v H') : tLstRg (tRg2 ta tb) σ H Q :=
  lstRg2_of E h1 h2 h fun a b h => st_newO E (rp_ints _) fun H' v E => next _ H' v E h
end
end M
/-! ### enumerate of a tuple -/
namespace EnT
open PySem PySem.Calls PyProof.Rows
set_option maxHeartbeats 1000000 in
theorem meets_enumerate_new1 {v : Value} {o : Obj} {H : Heap → Prop} (B : Begins v o H) :
    Meets (Builtin.«enumerate.__new__» ⟨[.type "enumerate", v], []⟩) (fun _ R s => H s.heap ∧
      R (.ok (.ret (.ref (s.heap.push o).objs.size))) { s with heap := (s.heap.push o).push { cls := .type "enumerate", data := .fields #[.none, .bool false, .ref s.heap.objs.size, rawInt 0, .none, .none] } }) :=
  .of_wp fun prog w A R s h => by
    obtain ⟨hp, g, d, tk, os⟩ := s; obtain ⟨h1, h⟩ := h
    have hsub := sub_enumerate
    have q1 : ∀ {A' : Around} {E : Value → Shared → Prop} {Q : Value → Shared → Prop}, Q (.ref hp.objs.size) ⟨hp.push o, g, d, tk, os⟩ → wpAny (model prog w) A' (pyIter v) Q E ⟨hp, g, d, tk, os⟩ :=
      fun q => B.iter prog w _ _ ⟨hp, g, d, tk, os⟩ _ h1 q
    wp_walk using q1
    refine wpAny_stack_any fun st => wpAny_pure ?_
    split
    · rename_i c _ _ _ _ _
      cases (c == Value.type "enumerate")
      · wp_walk using q1
        exact ⟨_, rfl, h⟩
      · wp_walk using q1
        exact ⟨_, rfl, h⟩
    · wp_walk using q1
      exact ⟨_, rfl, h⟩
section
variable {prog : Program} {w : World} {A : Around} {E : Value → Shared → Prop} {s : Shared}
theorem call_enumerate_tuple {l : Addr} {items : Array Value} {Q : Value → Shared → Prop} (hL : s.heap.IsTuple l items)
    (h : ∀ h', IsEnum h' (s.heap.objs.size + 1) s.heap.objs.size 0 .none → h'.IsTupleIter s.heap.objs.size l 0 → h'.objs.size = s.heap.objs.size + 2 →
      (∀ b o, s.heap.get? b = some o → h'.get? b = some o) → Q (.ref (s.heap.objs.size + 1)) { s with heap := h' }) :
    wpAny (model prog w) A (call (.type "enumerate") [.ref l]) Q E s := by
  refine callType_new F.called_enumerate (by decide) (F.typeCall_enumerate_1 _) (F.newCall_enumerate_1 _) (fun obj => F.args_object_init_2 obj _) F.entry_enumerate_new
    (meets_enumerate_new1 (begins_tuple l items)) ⟨hL, ?_⟩
  have hz : (s.heap.push { cls := .type "tuple_iterator", data := .fields #[.ref l, .int 0 0] }).objs.size = s.heap.objs.size + 1 := Heap.size_push ..
  show _ ∧ _
  rw [hz]
  have he : IsEnum ((s.heap.push { cls := .type "tuple_iterator", data := .fields #[.ref l, .int 0 0] }).push
      { cls := .type "enumerate", data := .fields #[.none, .bool false, .ref s.heap.objs.size, rawInt 0, .none, .none] }) (s.heap.objs.size + 1) s.heap.objs.size 0 .none := by
    have := Heap.get?_push_size (s.heap.push { cls := .type "tuple_iterator", data := .fields #[.ref l, .int 0 0] })
      (o := { cls := .type "enumerate", data := .fields #[.none, .bool false, .ref s.heap.objs.size, rawInt 0, .none, .none] }) rfl
    rw [hz] at this; exact this
  refine ⟨⟨_, he, rfl⟩, h _ he ⟨_, Heap.get?_push_of_some _ (Heap.get?_push_size _ rfl), rfl, rfl⟩ (by rw [Heap.size_push, hz]) fun b o x => Heap.get?_push_of_some _ (Heap.get?_push_of_some _ x)⟩
theorem pyNext_enum_endT {e it t : Addr} {i : Nat} {k : Int} {items : Array Value} {old : Value} {Q : Option Value → Shared → Prop} (hh : A.handled = none)
    (he : IsEnum s.heap e it k old) (hit : s.heap.IsTupleIter it t i) (ht : s.heap.IsTuple t items) (hx : items[i]? = none)
    (hQ : ∀ h', Heap.ExtBut it s.heap h' → Q none { s with heap := h' }) : wpAny (model prog w) A (pyNext (.ref e)) Q E s := by
  have hT : s.TypeIs (.ref e) "enumerate" := ⟨_, he, rfl⟩
  unfold pyNext
  refine wpAny_bind (wpAny_attempt (wpAny_callSpecial?_slot (name := Str.ofString "__next__") hT F.slot_enumerate_next
    (wpAny_call_entry F.slot_enumerate_next hT F.entry_enumerate_next ?_ (F.args_enumerate_next_1 _))))
  show wpAny _ _ (field (.ref e) 2 >>= _) _ _ _
  refine wpAny_bind (wpAny_field he rfl (x := .ref it) rfl ?_)
  refine wpAny_bind (wpAny_nextOf_tuple_end hh hit ht hx fun h' x he' hx' => ?_)
  obtain ⟨o, ho, hc⟩ := hx'
  refine wpAny_bind (wpAny_isInstance (T := "StopIteration") (b := true) ⟨o, ho, hc⟩ isSubtype_stop ?_)
  exact wpAny_pure (hQ _ he')
end
end EnT
namespace L2
open PySem PySem.Spec PyProof.Rows EnT
def IteT (K : PySem.W.Frag) (a : Addr) : It :=
  ⟨fun i H => ∃ (xs : List V) (x : V), SqT K H a xs ∧ xs[i]? = some x, fun i H v H' => ∃ T x, v = .ref T ∧ H T = none ∧ H' = upd H T (.tup [.int (i : Nat), x]) ∧ ∀ xs, SqT K H a xs → xs[i]? = some x, fun i H => ∃ xs : List V, SqT K H a xs ∧ xs.length ≤ i⟩
theorem turn_enumT {P : Program} {w : World} {K : PySem.W.Frag} {elts : List Expr} {kk : Nat} {tpos : Pos} (a e it : Addr) :
    Turn P w K (.Tuple elts kk tpos) (IteT K a) [e, it] e (fun i h => (∃ old, IsEnum h e it ((i : Nat) : Int) old) ∧ h.IsTupleIter it a i ∧ e ≠ it ∧ e ≠ a ∧ a ≠ it) where
  mem := by simp
  obj := fun i h st b hb => by
    obtain ⟨⟨old, he⟩, ⟨o, ho, hc, hd⟩, _⟩ := st
    have e' : b = e ∨ b = it := by simpa using hb
    rcases e' with z | z
    · rw [z]; exact ⟨_, he, fun v q => nomatch q⟩
    · rw [z]; exact ⟨o, ho, fun v q => by rw [hd] at q; cases q⟩
  keep := fun i h h' st k => let ⟨⟨old, he⟩, hi, hne⟩ := st; ⟨⟨old, k e (by simp) _ he⟩, hi.at fun o q => k it (by simp) o q, hne⟩
  item := by
    intro X hP hw hK hc i pins s σ H E I hf st hg
    subst hP hw hK
    obtain ⟨⟨old, he⟩, hit, hne, hea, hai⟩ := st
    obtain ⟨xs, x, hq, hx⟩ := hg
    obtain ⟨its, rv, p, hz⟩ := I.tuple hq
    obtain ⟨u, hu, ru⟩ := rv.get hx
    have hel : e < s.heap.objs.size := Heap.lt_size he
    have hil : it < s.heap.objs.size := by obtain ⟨_, q, _⟩ := hit; exact Heap.lt_size q
    have p' : s.heap.IsTuple a its.toArray := p
    have hlt : i < its.toArray.size := by
      have := (List.getElem?_eq_some_iff.mp hu).1
      simpa using this
    refine wpAny_pyNext_enum_itemD (Draws.tuple (A := X.A.in1) (by first | exact I.ok.hd hc | rfl) it a hai its.toArray) he ⟨hit, p'⟩ hlt hne (by simp [hne, hea]) fun x' h' tk hx' ho hst' hT hsz hk => ?_
    have ex : x' = u := by
      have : its.toArray[i]? = some x' := hx'
      rw [show its.toArray[i]? = some u by simpa using hu] at this
      exact (Option.some.inj this).symm
    subst ex
    refine ⟨_, rfl, wpAny_letOwnedTupleGo_enum (s := { s with heap := h', toks := tk + 1 }) ho fun h'' he' sb => ?_⟩
    have hT2 : h''.get? s.heap.objs.size = some { cls := .type "tuple", data := .seq #[.int i tk, x'] } := (sb.2 _ (Nat.ne_of_gt hel)).trans hT
    have new : ObjOk X.prog X.w (upd H s.heap.objs.size (.tup [.int (i : Nat), x])) h'' s.heap.objs.size (.tup [.int (i : Nat), x]) :=
      ⟨by show 2 ≤ sizeLine; decide, [.int i tk, x'], .cons ⟨_, rfl⟩ (.cons ru .nil), ⟨_, hT2, rfl, _, rfl⟩⟩
    have I1 : Inv X pins σ (upd H s.heap.objs.size (.tup [.int (i : Nat), x])) { s with heap := h'', toks := tk + 1 } :=
      I.turnedNew (ch := [e, it]) (fun b ob hb q => (sb.2 b (fun z => hb (by simp [z]))).trans (hk b ob (fun z => hb (by simp [z])) (fun z => hb (by simp [z])) q)) hf (Nat.le_refl _) new
    refine ⟨.ref s.heap.objs.size, _, I1, rfl, ⟨_, x, rfl, I.hok.fresh (Nat.le_refl _), rfl, fun ys hy => by rw [I.tuple_inj hy hq]; exact hx⟩, ⟨⟨x', ?_⟩, hst'.1.at fun o q => (sb.2 it (Ne.symm hne)).trans q, hne, hea, hai⟩, fun b hb => ?_⟩
    · have e1 : ((i + 1 : Nat) : Int) = (i : Int) + 1 := by omega
      rw [e1]; exact he'
    · have hb' : b < s.heap.objs.size := by
        have e' : b = e ∨ b = it := by simpa using hb
        rcases e' with z | z
        · rw [z]; exact hel
        · rw [z]; exact hil
      rw [upd_ne (Nat.ne_of_lt hb')]
      exact (hf b hb).1
  done := by
    intro X hP hw hK hc i pins s σ H E I hf st hg
    subst hP hw hK
    obtain ⟨⟨old, he⟩, hit, hne⟩ := st
    obtain ⟨xs, hq, hx⟩ := hg
    obtain ⟨its, rv, p, hz⟩ := I.tuple hq
    obtain ⟨f0, f1, f2, f3, f4, f5⟩ := hf it (by simp)
    have hl := rv.length
    exact pyNext_enum_endT (I.ok.hd hc) he hit (show s.heap.IsTuple a its.toArray from p) (by simp; omega) fun h' eb => ⟨rfl, I.turned (t' := s.toks) (fun b o hb q => eb b o hb q) f0 f1 f3 f4 f5⟩
  self := fun A i s Q E st h => let ⟨⟨_, he⟩, _⟩ := st; wpAny_pyIter_enum he h
def iEnumT (K : PySem.W.Frag) (ta : TA) : TI := fun σ H R => ta σ H fun vs H1 => ∃ a xs, vs = [.ref a] ∧ SqT K H1 a xs ∧ R (IteT K a) H1
theorem pi_enumT {X : Cx} {e : Expr} {ta : TA} {p pos tpos : Pos} {elts : List Expr} {kk : Nat} (hg : Gl X "enumerate") (hm : X.mg "enumerate" = none) (ha : PA X [e] ta) (hs : starEach [e] X.env = [(false, eval e X.env)] := by rfl) :
    PI X (.Tuple elts kk tpos) (.Call (.Name "enumerate" p) [e] [] pos) (iEnumT X.K ta) := by
  refine ⟨fun pins s σ H R I h => ?_⟩
  refine Call_ (ld_blt I hg hm boot_enumerate (PyProof.Rows.callWith_type1 (thn (ha.run pos pins s σ H _ I h) fun us s1 ⟨vs, H1, I1, r1, q1⟩ => ?_) hs rfl))
  obtain ⟨a, xs, ex, hq, q⟩ := q1
  subst ex
  cases r1 with
  | cons r rr =>
    cases rr
    cases r
    obtain ⟨its, rv, p', hz⟩ := I1.tuple hq
    have hal : a < s1.heap.objs.size := by obtain ⟨o, ho, _⟩ := p'; exact Heap.lt_size ho
    refine call_enumerate_tuple (show s1.heap.IsTuple a its.toArray from p') fun h' he hit hsz hk => wpAny_pyIter_enum he ?_
    have I2 : Inv X pins σ H1 { s1 with heap := h' } := I1.kept (t' := s1.toks) hk
    refine ⟨s1.heap.objs.size + 1, [s1.heap.objs.size + 1, s1.heap.objs.size], _, _, H1, rfl, I2, turn_enumT a (s1.heap.objs.size + 1) s1.heap.objs.size, ⟨⟨.none, he⟩, hit, Nat.succ_ne_self _, Nat.ne_of_gt (Nat.lt_succ_of_lt hal), Nat.ne_of_lt hal⟩, fun b hb => ?_, q⟩
    have e' : b = s1.heap.objs.size + 1 ∨ b = s1.heap.objs.size := by simpa using hb
    have hle : s1.heap.objs.size ≤ b := by
      rcases e' with z | z
      · rw [z]; exact Nat.le_add_right _ _
      · rw [z]; exact Nat.le_refl _
    exact I1.fpOk hle (I1.hok.fresh hle)
end L2
namespace M
open PySem PySem.Spec PyProof.Rows L2
section
variable {K : PySem.W.Frag} {mg : Str → Option Value} {I I1 H I' H' : Hp} {σ σ' ρ : List (Option V)} {Γ Γ1 Θ : List Cell} {i j n : Nat} {v v0 v1 v2 v3 : V} {te tl ti : TE} {ta : TA} {tt : TT} {t u : TS} {to : TO} {dn db dc : L2.St → Hp → Prop} {dr : VK} {Q : VK} {W : WX}
variable {pn : Option V} {ω : Type} {P : ω → Prop} {X : Exn → Prop} {α β γ δ : Type}
theorem EnvL.snapO {es es1 : List Ent} (h : EnvL K I H es) (h1 : EnvL K I1 H es1) (s : LetS I I1) (hn : ∀ e ∈ es1, e.2 = noOwn e.2) : ∃ S : Snap, EnvL K I1 H ((some V.non, .own S) :: es1) ∧
    (∀ {I' H' : Hp} {o : Option V} {r : List Ent}, EnvL K I' H' ((o, .own S) :: r) → EnvL K I H' es) ∧
    (∀ {I' H' : Hp} {o : Option V} {r : List Ent} {d : V} {fs : List (Str × V)}, EnvL K I' H' ((some d, .im (XD.mk fs)) :: (o, .own S) :: r) → (∃ I2, EnvL K I2 H' ((some d, .im (XD.mk fs)) :: es))) ∧
    ∀ {β : Type} [Sca β] {bs : List β} {pn : Option V} {v : V} {I' H' : Hp} {o : Option V} {r : List Ent}, EnvL K I' H' ((some v, .own bs pn) :: (o, .own S) :: r) → EnvL K I H' ((some v, .own bs) :: es) := by
  obtain ⟨sm, fs, e1, e2, e3⟩ := h
  obtain ⟨sm1, fs1, d1, d2, d3⟩ := h1
  have f0 := Ents.noOwn0 hn d1
  classical
  refine ⟨⟨I1, H, fs.flatten.filter fun a => decide (I1 a = none)⟩, ⟨sm1, _ :: fs1, ⟨⟨V.non, rfl, (fun _ z => nomatch z), rfl, Same.refl _, fun _ _ => rfl⟩, d1⟩, ?_, ?_⟩, fun {I' H' o r} z => ?_, fun {I' H' o r d xs} z => ?_, fun {β _ bs pn v I' H' o r} z => ?_⟩
  · rw [List.flatten_cons, f0, List.append_nil]
    exact e2.filter _
  · intro a ha
    rw [List.flatten_cons, f0, List.append_nil] at ha
    have ha := List.mem_filter.mp ha
    exact ⟨by simpa using ha.2, (e3 a ha.1).2⟩
  · obtain ⟨t1, gs, t2, t3, t4⟩ := z
    cases gs with
    | nil => exact t2.elim
    | cons g gs =>
      obtain ⟨⟨w, _, _, q1, q2, q3⟩, _⟩ := t2
      have q1 : g = _ := q1
      have q2 : Same I1 I' := q2
      have hk : ∀ a ∈ fs.flatten, H' a = H a := fun a ha => by
        cases e : I1 a with
        | none => exact q3 a (by rw [q1]; exact List.mem_filter.mpr ⟨ha, by simpa using e⟩)
        | some u => rw [t1 a u (q2 a u e), sm1 a u e]
      refine ⟨fun a u e => t1 a u (q2 a u (s.same a u e)), fs, Ents.mono (Same.refl _) hk e1, e2, fun a ha => ⟨(e3 a ha).1, ?_⟩⟩
      rw [hk a ha]
      exact (e3 a ha).2
  · obtain ⟨t1, gs, t2, t3, t4⟩ := z
    cases gs with
    | nil => exact t2.elim
    | cons g0 gs =>
      cases gs with
      | nil => exact t2.2.elim
      | cons g gs =>
        obtain ⟨⟨hg0, v0, ev0, hx0⟩, ⟨w, _, _, q1, q2, q3⟩, _⟩ := t2
        have q1 : g = _ := q1
        have q2 : Same I1 I' := q2
        have ev0 : some d = some v0 := ev0
        cases ev0
        have hk : ∀ a ∈ fs.flatten, H' a = H a := fun a ha => by
          cases e : I1 a with
          | none => exact q3 a (by rw [q1]; exact List.mem_filter.mpr ⟨ha, by simpa using e⟩)
          | some u => rw [t1 a u (q2 a u e), sm1 a u e]
        have hx0 : XDr I' d xs := hx0
        rcases hx0 with hx0 | ⟨d', ed', hxd⟩
        · have b : EnvL K I H' es := ⟨fun a u e => t1 a u (q2 a u (s.same a u e)), fs, Ents.mono (Same.refl _) hk e1, e2, fun a ha => ⟨(e3 a ha).1, by rw [hk a ha]; exact (e3 a ha).2⟩⟩
          exact ⟨I, b.im (a := XD.mk xs) (.inl hx0)⟩
        subst ed'
        have hd' : H' d' = some (.xd xs) := t1 _ _ hxd
        have sI : Same I (upd I d' (.xd xs)) := fun a u e => by
          by_cases hd : a = d'
          · subst hd
            have z1 := t1 a u (q2 a u (s.same a u e))
            rw [hd'] at z1
            rw [upd_same, ← z1]
          · rw [upd_ne hd]; exact e
        have nd : ∀ a ∈ fs.flatten, a ≠ d' := fun a ha hd => by
          subst hd
          cases e : I1 a with
          | none =>
            have : I' a = none := (t4 a (by
              rw [List.flatten_cons, List.flatten_cons]
              refine List.mem_append_right _ (List.mem_append_left _ ?_)
              rw [q1]; exact List.mem_filter.mpr ⟨ha, by simpa using e⟩)).1
            rw [hxd] at this
            cases this
          | some u =>
            rcases s.lst a u e with h | ⟨vs, h⟩
            · rw [(e3 a ha).1] at h; cases h
            · have z1 := t1 a u (q2 a u e)
              rw [hd', h] at z1
              cases z1
        refine ⟨upd I d' (.xd xs), fun a u e => ?_, [] :: fs, ⟨⟨rfl, _, rfl, .inr ⟨d', rfl, upd_same⟩⟩, Ents.mono sI hk e1⟩, ?_, fun a ha => ?_⟩
        · by_cases hd : a = d'
          · subst hd
            rw [upd_same] at e
            rw [← e]; exact hd'
          · rw [upd_ne hd] at e
            exact t1 a u (q2 a u (s.same a u e))
        · exact e2
        · have ha : a ∈ fs.flatten := ha
          refine ⟨by rw [upd_ne (nd a ha)]; exact (e3 a ha).1, ?_⟩
          rw [hk a ha]
          exact (e3 a ha).2
  · obtain ⟨t1, gs, t2, t3, t4⟩ := z
    cases gs with
    | nil => exact t2.elim
    | cons g0 gs =>
      cases gs with
      | nil => exact t2.2.elim
      | cons g gs =>
        obtain ⟨⟨v0, ev0, _, p, vs, e0, hg0, hp, pr⟩, ⟨w, _, _, q1, q2, q3⟩, _⟩ := t2
        have q1 : g = _ := q1
        have q2 : Same I1 I' := q2
        have ev0 : some v = some v0 := ev0
        cases ev0
        subst hg0
        have hk : ∀ a ∈ fs.flatten, H' a = H a := fun a ha => by
          cases e : I1 a with
          | none => exact q3 a (by rw [q1]; exact List.mem_filter.mpr ⟨ha, by simpa using e⟩)
          | some u => rw [t1 a u (q2 a u e), sm1 a u e]
        have pI : I' p = none := (t4 p (by simp)).1
        have np : ∀ a ∈ fs.flatten, a ≠ p := fun a ha q => by
          subst q
          cases e : I1 a with
          | none =>
            rw [List.flatten_cons, List.flatten_cons, q1] at t3
            exact (List.nodup_append.mp t3).2.2 a (by simp) a (List.mem_append_left _ (List.mem_filter.mpr ⟨ha, by simpa using e⟩)) rfl
          | some u => rw [q2 a u e] at pI; cases pI
        have pI0 : I p = none := by
          cases e : I p with
          | none => rfl
          | some u => rw [q2 p u (s.same p u e)] at pI; cases pI
        refine ⟨fun a u e => t1 a u (q2 a u (s.same a u e)), [p] :: fs, ⟨⟨v, rfl, (fun _ z => nomatch z), p, vs, e0, rfl, hp, Paired.monoR (fun _ _ z => z) pr⟩, Ents.mono (Same.refl _) hk e1⟩, ?_, fun a ha => ?_⟩
        · rw [List.flatten_cons]
          refine List.nodup_append.mpr ⟨by simp, e2, fun a ha b hb q => ?_⟩
          have e : a = p := by simpa using ha
          exact np b hb (q ▸ e)
        · rw [List.flatten_cons] at ha
          rcases List.mem_append.mp ha with ha | ha
          · have e : a = p := by simpa using ha
            subst e
            exact ⟨pI0, by rw [hp]; exact fun z => nomatch z⟩
          · exact ⟨(e3 a ha).1, by rw [hk a ha]; exact (e3 a ha).2⟩
/-- before such a call; E1: the same where what the call reads is let be -/
theorem Env.borrowO (E : Env K I H σ Γ ρ Θ) (E1 : Env K I1 H σ Γ1 ρ Θ) (s : LetS I I1) : ∃ S : Snap, Env K I1 H σ (Γ1.map noOwn) (some V.non :: ρ) (.own S :: Θ.map noOwn) ∧
    (∀ {β : Type} [Sca β] {b : β} {I' H' : Hp} {v : V} {σ2 : List (Option V)} {Γ2 Θ2 : List Cell} {o : Option V} {ρ2 : List (Option V)}, Env K I' H' σ2 Γ2 (some v :: o :: ρ2) (.im b :: .own S :: Θ2) → Env K I H' σ Γ (some v :: ρ) (.im b :: Θ)) ∧
    (∀ {I' H' : Hp} {σ2 : List (Option V)} {Γ2 Θ2 : List Cell} {o : Option V} {ρ2 : List (Option V)} {d : V} {fs : List (Str × V)}, Env K I' H' σ2 Γ2 (some d :: o :: ρ2) (.im (XD.mk fs) :: .own S :: Θ2) → ∃ I2, Env K I2 H' σ Γ (some d :: ρ) (.im (XD.mk fs) :: Θ)) ∧
    (∀ {β : Type} [Sca β] {bs : List β} {pn : Option V} {I' H' : Hp} {v : V} {σ2 : List (Option V)} {Γ2 Θ2 : List Cell} {o : Option V} {ρ2 : List (Option V)}, Env K I' H' σ2 Γ2 (some v :: o :: ρ2) (.own bs pn :: .own S :: Θ2) → Env K I H' σ Γ (some v :: ρ) (.own bs :: Θ)) := by
  have E2 := (E1.weak (wk_noOwn Γ1)).weakT (wk_noOwn Θ)
  obtain ⟨S, a, b, b2, b3⟩ := E.2.2.snapO E2.2.2 s fun e he => by
    rcases List.mem_append.mp he with he | he
    · exact zip_noOwn e he
    · exact zip_noOwn e he
  refine ⟨S, E2.toStack a, fun {β _ b' I' H' v σ2 Γ2 Θ2 o ρ2} Z => ?_, fun {I' H' σ2 Γ2 Θ2 o ρ2 d fs} Z => ?_, fun {β _ bs pn I' H' v σ2 Γ2 Θ2 o ρ2} Z => ?_⟩
  · have z := b Z.pop.unstack
    have r := Z.topS
    have E3 : Env K I H' σ Γ ρ Θ := ⟨E.1, E.2.1, z⟩
    rw [r.1]
    exact E3.pushS r.2
  · have z0 : EnvL K I' H' ((some d, .im (XD.mk fs)) :: (o, .own S) :: (σ2.zip Γ2 ++ ρ2.zip Θ2)) := by
      refine Z.2.2.perm ?_
      show (σ2.zip Γ2 ++ ((some d, Cell.im (XD.mk fs)) :: (o, Cell.own S) :: ρ2.zip Θ2)).Perm _
      exact List.perm_middle.trans (List.Perm.cons _ List.perm_middle)
    obtain ⟨I2, z⟩ := b2 z0
    exact ⟨I2, E.1, by simp [E.2.1], z.perm List.perm_middle.symm⟩
  · have z0 : EnvL K I' H' ((some v, .own bs pn) :: (o, .own S) :: (σ2.zip Γ2 ++ ρ2.zip Θ2)) := by
      refine Z.2.2.perm ?_
      show (σ2.zip Γ2 ++ ((some v, Cell.own bs pn) :: (o, Cell.own S) :: ρ2.zip Θ2)).Perm _
      exact List.perm_middle.trans (List.Perm.cons _ List.perm_middle)
    have z := b3 z0
    exact ⟨E.1, by simp [E.2.1], z.perm List.perm_middle.symm⟩
end
/-! ### enumerate, a star in a display, the truth of a list -/
def enumL {α : Type} (xs : List α) : List (Int × α) := xs.zipIdx.map fun p => ((p.2 : Int), p.1)
theorem enumL_len {α : Type} (xs : List α) : (enumL xs).length = xs.length := by unfold enumL; simp
theorem enumL_at {α : Type} {xs : List α} {i : Nat} {a : Int × α} (h : (enumL xs)[i]? = some a) : xs[i]? = some a.2 ∧ a.1 = (i : Int) := by
  unfold enumL at h
  rw [List.getElem?_map, List.getElem?_zipIdx] at h
  cases e : xs[i]? with
  | none => rw [e] at h; cases h
  | some x =>
    rw [e] at h
    have := Option.some.inj h
    rw [← this]
    simp
section
variable {K : PySem.W.Frag} {I H : Hp} {σ ρ : List (Option V)} {Γ Γ' Θ : List Cell} {i j : Nat} {v : V} {pn : Option V} {te tl : TE} {ta : TA} {Q : VK} {ω : Type} {P : ω → Prop} {X : Exn → Prop}
theorem uEnum {R : It → Hp → Prop} (h : ta σ H fun vs H1 => ∃ a xs, vs = [.ref a] ∧ SqL K H1 a xs ∧ R (Ite K a) H1) : iEnum K ta σ H R := h
theorem uEnumT {R : It → Hp → Prop} (h : ta σ H fun vs H1 => ∃ a xs, vs = [.ref a] ∧ SqT K H1 a xs ∧ R (IteT K a) H1) : iEnumT K ta σ H R := h
theorem enum_new {α : Type} [Rep α] {T : Addr} {x : V} {a : Int × α} {i : Nat} (s : Same I H) (hT : H T = none) (h1 : a.1 = (i : Int)) (r : Rep.rp K I x a.2) : ∃ I', Grow I H I' (upd H T (.tup [.int (i : Nat), x])) ∧ Rep.rp K I' (.ref T) a := by
  have hi : I T = none := by
    cases e : I T with
    | none => rfl
    | some o => rw [s T o e] at hT; cases hT
  refine ⟨_, Grow.newI s hT, T, _, _, rfl, .inl (.inl upd_same), ⟨by rw [h1]; rfl, trivial⟩, Rep.mono (fun b o e => by rw [upd_ne (ne_of_none e hi)]; exact e) r⟩
theorem it_enum {α : Type} [Rep α] {R : Addr → Prop} {xs : List α} (E : Env K I H σ Γ (some v :: ρ) (.im xs :: Θ)) (next : ∀ a, Feeds K (Ite K a) (enumL xs) [some v] [.im xs] → R a) :
    ∃ a ys, [v] = [.ref a] ∧ SqL K H a ys ∧ R a := by
  obtain ⟨a, vs, e, hq, pr⟩ := E.topR
  subst e
  refine ⟨a, vs, rfl, SqL.of (E.same _ _ hq), next _ ⟨rfl, fun {_ _} {_ _} {_ _} i E' hi => ?_, fun {I H} {_ _} {_ _} i x H' b E' hx hy => ?_, fun {_ _} {_ _} {_ _} i E' hi => ?_⟩⟩
  · obtain ⟨a', vs', e', hq', pr'⟩ := E'.topR
    cases e'
    have hl : vs'.length = xs.length := Paired.length pr'
    rw [enumL_len] at hi
    exact ⟨vs', vs'[i]'(by omega), SqL.of (E'.same _ _ hq'), List.getElem?_eq_getElem (by omega)⟩
  · obtain ⟨a', vs', e', hq', pr'⟩ := E'.topR
    cases e'
    obtain ⟨T, y, rfl, hT, rfl, hy⟩ := hy
    obtain ⟨hx1, hx2⟩ := enumL_at hx
    exact enum_new E'.same hT hx2 (paired_at pr' (hy _ (SqL.of (E'.same _ _ hq'))) hx1)
  · obtain ⟨a', vs', e', hq', pr'⟩ := E'.topR
    cases e'
    have hl : vs'.length = xs.length := Paired.length pr'
    rw [enumL_len] at hi
    exact ⟨vs', SqL.of (E'.same _ _ hq'), by omega⟩
theorem it_enumT {α : Type} [Rep α] {R : Addr → Prop} {xs : TupL α} (E : Env K I H σ Γ (some v :: ρ) (.im xs :: Θ)) (next : ∀ a, Feeds K (IteT K a) (enumL xs.l) [some v] [.im xs] → R a) :
    ∃ a ys, [v] = [.ref a] ∧ SqT K H a ys ∧ R a := by
  obtain ⟨a, vs, e, hq, pr⟩ := E.topR
  subst e
  refine ⟨a, vs, rfl, same_seqT E.same hq, next _ ⟨rfl, fun {_ _} {_ _} {_ _} i E' hi => ?_, fun {I H} {_ _} {_ _} i x H' b E' hx hy => ?_, fun {_ _} {_ _} {_ _} i E' hi => ?_⟩⟩
  · obtain ⟨a', vs', e', hq', pr'⟩ := E'.topR
    cases e'
    have hl : vs'.length = xs.l.length := Paired.length pr'
    rw [enumL_len] at hi
    exact ⟨vs', vs'[i]'(by omega), same_seqT E'.same hq', List.getElem?_eq_getElem (by omega)⟩
  · obtain ⟨a', vs', e', hq', pr'⟩ := E'.topR
    cases e'
    obtain ⟨T, y, rfl, hT, rfl, hy⟩ := hy
    obtain ⟨hx1, hx2⟩ := enumL_at hx
    exact enum_new E'.same hT hx2 (paired_at pr' (hy _ (same_seqT E'.same hq')) hx1)
  · obtain ⟨a', vs', e', hq', pr'⟩ := E'.topR
    cases e'
    have hl : vs'.length = xs.l.length := Paired.length pr'
    rw [enumL_len] at hi
    exact ⟨vs', same_seqT E'.same hq', by omega⟩
/-- [a, *xs] -/
theorem uStar {A : List V → Hp → Prop} (h : te σ H fun x H1 => ∃ p xs, x = V.ref p ∧ (SqT K H1 p xs ∨ SqL K H1 p xs) ∧ ta σ H1 fun ys H2 => A (xs ++ ys) H2) : StX.tStar K te ta σ H A := h
theorem star_of {α : Type} [Rep α] {x : α} {ys : List α} {v1 v2 : V} {k : List α → Res ω} (E : Env K I H σ Γ (some v2 :: some v1 :: ρ) (.im ys :: .im x :: Θ)) (h : wp ((lCat [x] ys).bind k) P X)
    (next : ∀ zs vs, Paired (fun v x => Rep.rp K I v x) vs zs → wp (k zs) P X → ∀ p, H p = none → Q (.ref p) (upd H p (.lst vs))) :
    ∃ p xs, v2 = V.ref p ∧ (SqT K H p xs ∨ SqL K H p xs) ∧ tNil σ H fun zs H2 => LsG (v1 :: (xs ++ zs)) H2 Q := by
  obtain ⟨p, vs, e, hq, pr⟩ := E.topR
  have r1 := E.pop.topR
  have hl : vs.length = ys.length := Paired.length pr
  unfold lCat at h
  rw [clo_eq] at h
  by_cases hz : [x].length + ys.length ≤ line
  · rw [if_pos hz] at h
    refine ⟨p, vs, e, .inr (SqL.of (E.same _ _ hq)), ?_⟩
    show LsG (v1 :: (vs ++ [])) H Q
    rw [List.append_nil]
    refine ⟨line_of ?_, next _ _ (.cons r1 pr) h⟩
    rw [List.length_cons, hl]
    simp at hz
    omega
  · rw [if_neg hz] at h
    exact h.elim
theorem st_starO {α : Type} [Rep α] {x : α} {ys : List α} {v1 v2 : V} {k : List α → Res ω} (E : Env K I H σ Γ (some v2 :: some v1 :: ρ) (.im ys :: .im x :: Θ)) (h : wp ((lCat [x] ys).bind k) P X)
    (next : ∀ zs H' v, Env K I H' σ Γ (some v :: ρ) (.own zs :: Θ) → wp (k zs) P X → Q v H') : ∃ p xs, v2 = V.ref p ∧ (SqT K H p xs ∨ SqL K H p xs) ∧ tNil σ H fun zs H2 => LsG (v1 :: (xs ++ zs)) H2 Q :=
  star_of E h fun zs vs pr h => st_newO E.pop.pop pr fun H' v E => next zs H' v E h
theorem st_starI {α : Type} [Rep α] {x : α} {ys : List α} {v1 v2 : V} {k : List α → Res ω} (E : Env K I H σ Γ (some v2 :: some v1 :: ρ) (.im ys :: .im x :: Θ)) (h : wp ((lCat [x] ys).bind k) P X)
    (next : ∀ zs I' H' v, Env K I' H' σ Γ (some v :: ρ) (.im zs :: Θ) → wp (k zs) P X → Q v H') : ∃ p xs, v2 = V.ref p ∧ (SqT K H p xs ∨ SqL K H p xs) ∧ tNil σ H fun zs H2 => LsG (v1 :: (xs ++ zs)) H2 Q :=
  star_of E h fun zs vs pr h => st_newI E.pop.pop pr fun I' H' v E => next zs I' H' v E h
/-- if xs -/
theorem ht_truL {α : Type} [Rep α] {xs : List α} (hΓ : Γ[j]? = some (.im xs)) : HT K (tTrq K (tVar j)) Γ (.ok (!xs.isEmpty)) := .mk fun X Q E q => by
  obtain ⟨a, vs, hs, ha, p⟩ := E.listAt hΓ
  have hl : vs.length = xs.length := Paired.length p
  have e : vs.isEmpty = xs.isEmpty := by cases vs <;> cases xs <;> simp_all
  exact ⟨_, hs, _, .inl ⟨vs, SqL.of ha, rfl⟩, by rw [e]; exact q⟩
theorem ht_truO {α : Type} [Rep α] {xs : List α} (hΓ : Γ[j]? = some (.own xs pn)) : HT K (tTrq K (tVar j)) Γ (.ok (!xs.isEmpty)) := .mk fun X Q E q => by
  obtain ⟨a, vs, hs, ha, p⟩ := E.ownAt' hΓ
  have hl : vs.length = xs.length := Paired.length p
  have e : vs.isEmpty = xs.isEmpty := by cases vs <;> cases xs <;> simp_all
  exact ⟨_, hs, _, .inl ⟨vs, SqL.of ha, rfl⟩, by rw [e]; exact q⟩
end
end M
namespace M
open PySem PySem.Spec PyProof.Rows L2
/-! ### owned lists of owned lists -/
structure Mat (α : Type) where
  rows : List (List α)
def RowsO {α : Type} [Rep α] (K : PySem.W.Frag) (I H : Hp) : List Addr → List V → List (List α) → Prop
  | [], [], [] => True
  | p :: ps, v :: vs, r :: rs => (v = .ref p ∧ ∃ ws, H p = some (.lst ws) ∧ Paired (fun v x => Rep.rp K I v x) ws r) ∧ RowsO K I H ps vs rs
  | _, _, _ => False
theorem RowsO.mono {α : Type} [Rep α] {K : PySem.W.Frag} {I I' H H' : Hp} (e : Same I I') : ∀ {ps : List Addr} {vs : List V} {rs : List (List α)}, (∀ b ∈ ps, H' b = H b) → RowsO K I H ps vs rs → RowsO K I' H' ps vs rs
  | [], [], [], _, _ => trivial
  | p :: ps, v :: vs, r :: rs, k, h => by
    obtain ⟨⟨e1, ws, h1, q⟩, h2⟩ := h
    exact ⟨⟨e1, ws, by rw [k p List.mem_cons_self]; exact h1, Paired.monoR (fun _ _ z => Rep.mono e z) q⟩, RowsO.mono e (fun b hb => k b (List.mem_cons_of_mem _ hb)) h2⟩
  | [], [], _ :: _, _, h => h.elim
  | [], _ :: _, _, _, h => h.elim
  | _ :: _, [], _, _, h => h.elim
  | _ :: _, _ :: _, [], _, h => h.elim
instance ownMat {α : Type} [Rep α] : Own (Mat α) where
  ow K fp I H v m := ∃ p ps vs, v = .ref p ∧ fp = p :: ps ∧ H p = some (.lst vs) ∧ RowsO K I H ps vs m.rows
  mono := fun e k ⟨p, ps, vs, e1, e2, h, q⟩ => ⟨p, ps, vs, e1, e2, by subst e2; rw [k p (by simp)]; exact h, by
    subst e2
    exact RowsO.mono e (fun b hb => k b (List.mem_cons_of_mem _ hb)) q⟩
section
variable {α : Type} [Rep α] {K : PySem.W.Frag} {I H I' H' : Hp} {es : List Ent} {o : Option V} {v : V} {pn : Option V}
theorem RowsO.len : ∀ {ps : List Addr} {vs : List V} {rs : List (List α)}, RowsO K I H ps vs rs → vs.length = rs.length ∧ ps.length = rs.length
  | [], [], [], _ => ⟨rfl, rfl⟩
  | p :: ps, v :: vs, r :: rs, h => by
    obtain ⟨a, b⟩ := RowsO.len h.2
    exact ⟨by simp [a], by simp [b]⟩
  | [], [], _ :: _, h => h.elim
  | [], _ :: _, _, h => h.elim
  | _ :: _, [], _, h => h.elim
  | _ :: _, _ :: _, [], h => h.elim
theorem RowsO.at : ∀ {ps : List Addr} {vs : List V} {rs : List (List α)} {i : Nat} {r : List α}, RowsO K I H ps vs rs → rs[i]? = some r → ∃ p ws, ps[i]? = some p ∧ vs[i]? = some (.ref p) ∧ H p = some (.lst ws) ∧ Paired (fun v x => Rep.rp K I v x) ws r
  | [], [], [], i, r, _, e => by simp at e
  | p :: ps, v :: vs, r0 :: rs, 0, r, h, e => by
    obtain ⟨⟨e1, ws, h1, q⟩, _⟩ := h
    have : r0 = r := by simpa using e
    subst this
    exact ⟨p, ws, rfl, by rw [e1]; rfl, h1, q⟩
  | p :: ps, v :: vs, r0 :: rs, i + 1, r, h, e => by
    obtain ⟨q, ws, a, b, c, d⟩ := RowsO.at h.2 (show rs[i]? = some r by simpa using e)
    exact ⟨q, ws, by simpa using a, by simpa using b, c, d⟩
  | [], [], _ :: _, _, _, h, _ => h.elim
  | [], _ :: _, _, _, _, h, _ => h.elim
  | _ :: _, [], _, _, _, h, _ => h.elim
  | _ :: _, _ :: _, [], _, _, h, _ => h.elim
theorem RowsO.set : ∀ {ps : List Addr} {vs : List V} {rs : List (List α)} {i : Nat} {p : Addr} {ws : List V} {r : List α}, ps.Nodup → RowsO K I H ps vs rs → ps[i]? = some p → Paired (fun v x => Rep.rp K I v x) ws r → RowsO K I (upd H p (.lst ws)) ps vs (rs.set i r)
  | [], [], [], i, p, ws, r, _, _, e, _ => by simp at e
  | p0 :: ps, v :: vs, r0 :: rs, 0, p, ws, r, nd, h, e, q => by
    have : p0 = p := by simpa using e
    subst this
    refine ⟨⟨h.1.1, ws, upd_same, q⟩, RowsO.mono (Same.refl _) (fun b hb => upd_ne fun z => ?_) h.2⟩
    subst z
    exact (List.nodup_cons.mp nd).1 hb
  | p0 :: ps, v :: vs, r0 :: rs, i + 1, p, ws, r, nd, h, e, q => by
    have e2 : ps[i]? = some p := by simpa using e
    have hm : p ∈ ps := List.mem_of_getElem? e2
    refine ⟨?_, RowsO.set (List.nodup_cons.mp nd).2 h.2 e2 q⟩
    obtain ⟨e1, ws0, h1, q0⟩ := h.1
    exact ⟨e1, ws0, by rw [upd_ne fun z => ?_]; exact h1; exact (List.nodup_cons.mp nd).1 (z ▸ hm), q0⟩
  | [], [], _ :: _, _, _, _, _, _, h, _, _ => h.elim
  | [], _ :: _, _, _, _, _, _, _, h, _, _ => h.elim
  | _ :: _, [], _, _, _, _, _, _, h, _, _ => h.elim
  | _ :: _, _ :: _, [], _, _, _, _, _, h, _, _ => h.elim
theorem RowsO.snoc : ∀ {ps : List Addr} {vs : List V} {rs : List (List α)} {p : Addr} {ws : List V} {r : List α}, RowsO K I H ps vs rs → H p = some (.lst ws) → Paired (fun v x => Rep.rp K I v x) ws r → RowsO K I H (ps ++ [p]) (vs ++ [.ref p]) (rs ++ [r])
  | [], [], [], p, ws, r, _, e, q => ⟨⟨rfl, ws, e, q⟩, trivial⟩
  | p0 :: ps, v :: vs, r0 :: rs, p, ws, r, h, e, q => ⟨h.1, RowsO.snoc h.2 e q⟩
  | [], [], _ :: _, _, _, _, h, _, _ => h.elim
  | [], _ :: _, _, _, _, _, h, _, _ => h.elim
  | _ :: _, [], _, _, _, _, h, _, _ => h.elim
  | _ :: _, _ :: _, [], _, _, _, h, _, _ => h.elim
/-- an owned list of lists: a row of it, and what becomes of it -/
theorem EnvL.ownM {m : Mat α} (h : EnvL K I H ((o, .own m pn) :: es)) : ∃ p vs, o = some (.ref p) ∧ H p = some (.lst vs) ∧ vs.length = m.rows.length ∧
    ∀ (i : Nat) (r : List α), m.rows[i]? = some r → ∃ q ws, vs[i]? = some (.ref q) ∧ H q = some (.lst ws) ∧ Paired (fun v x => Rep.rp K I v x) ws r ∧
      ∀ (ws' : List V) (r' : List α), Paired (fun v x => Rep.rp K I v x) ws' r' → EnvL K I (upd H q (.lst ws')) ((o, .own (Mat.mk (m.rows.set i r')) pn) :: es) := by
  obtain ⟨s, fs, h1, h2, h3⟩ := id h
  cases fs with
  | nil => exact h1.elim
  | cons f fs =>
    obtain ⟨⟨v, e1, e0, p, ps, vs, e2, e3, hp, rr⟩, h1⟩ := h1
    dsimp only at e1
    subst e1 e2 e3
    rw [List.flatten_cons] at h2 h3
    have hn := List.nodup_append.mp h2
    have hn1 := List.nodup_cons.mp hn.1
    refine ⟨p, vs, rfl, hp, rr.len.1, fun i r hr => ?_⟩
    obtain ⟨q, ws, a, b, c, d⟩ := rr.at hr
    have hq : q ∈ ps := List.mem_of_getElem? a
    have qI := (h3 q (List.mem_append_left _ (List.mem_cons_of_mem _ hq))).1
    have qp : p ≠ q := fun z => hn1.1 (z ▸ hq)
    have nf : ∀ x ∈ fs.flatten, x ≠ q := fun x hx z => hn.2.2 q (List.mem_cons_of_mem _ hq) x hx z.symm
    refine ⟨q, ws, b, c, d, fun ws' r' pr => ⟨fun x u e => ?_, (p :: ps) :: fs, ⟨⟨.ref p, rfl, e0, p, ps, vs, rfl, rfl, by rw [upd_ne qp]; exact hp, RowsO.set hn1.2 rr a pr⟩, Ents.mono (Same.refl _) (fun x hx => upd_ne (nf x hx)) h1⟩, by rw [List.flatten_cons]; exact h2, fun x hx => ?_⟩⟩
    · rw [upd_ne (ne_of_none e qI)]
      exact s x u e
    · rw [List.flatten_cons] at hx
      refine ⟨(h3 x hx).1, ?_⟩
      by_cases z : x = q
      · subst z; rw [upd_same]; exact fun y => nomatch y
      · rw [upd_ne z]; exact (h3 x hx).2
/-- an empty one -/
theorem EnvL.newM {p : Addr} (h : EnvL K I H es) (hp : H p = none) : EnvL K I (upd H p (.lst [])) ((some (.ref p), .own (Mat.mk ([] : List (List α)))) :: es) := by
  obtain ⟨s, fs, h1, h2, h3⟩ := h.newL (α := α) (vs := []) (xs := []) hp .nil
  cases fs with
  | nil => exact h1.elim
  | cons f fs =>
    obtain ⟨⟨v, e1, e0, q, vs, e2, e3, hq, _⟩, h1⟩ := h1
    have e1 : some (V.ref p) = some v := e1
    cases e1
    cases e2
    subst e3
    rw [upd_same] at hq
    cases hq
    exact ⟨s, [p] :: fs, ⟨⟨.ref p, rfl, e0, p, [], [], rfl, rfl, upd_same, trivial⟩, h1⟩, h2, h3⟩
/-- one row more -/
theorem EnvL.snocM {m : Mat α} {r : List α} {pn2 : Option V} {p : Addr} {vs : List V} (h : EnvL K I H ((some (.ref p), .own m pn) :: (some v, .own r pn2) :: es)) (hp : H p = some (.lst vs)) : EnvL K I (upd H p (.lst (vs ++ [v]))) ((some (.ref p), .own (Mat.mk (m.rows ++ [r])) pn) :: es) := by
  obtain ⟨s, fs, h1, h2, h3⟩ := id h
  cases fs with
  | nil => exact h1.elim
  | cons f fs =>
    cases fs with
    | nil => exact h1.2.elim
    | cons g fs =>
      obtain ⟨⟨v0, e1, e0, p0, ps, vs0, e2, e3, hp0, rr⟩, ⟨v1, d1, _, q, ws, d2, d3, hq, pr⟩, h1⟩ := h1
      have e1 : some (V.ref p) = some v0 := e1
      cases e1
      cases e2
      have d1 : some v = some v1 := d1
      cases d1
      subst d2 e3 d3
      rw [hp] at hp0
      cases hp0
      rw [List.flatten_cons, List.flatten_cons] at h2 h3
      have hn := List.nodup_append.mp h2
      have hn1 := List.nodup_cons.mp hn.1
      have hn2 := List.nodup_append.mp hn.2.1
      have pI := (h3 p (by simp)).1
      have np : ∀ x ∈ fs.flatten, x ≠ p := fun x hx z => hn.2.2 p (by simp) x (List.mem_append_right _ hx) z.symm
      have pq : q ≠ p := fun z => hn.2.2 p (by simp) q (by simp) z.symm
      refine ⟨fun x u e => ?_, (p :: (ps ++ [q])) :: fs, ⟨⟨.ref p, rfl, e0, p, ps ++ [q], vs ++ [.ref q], rfl, rfl, upd_same, RowsO.snoc (RowsO.mono (Same.refl _) (fun b hb => upd_ne (show b ≠ p from fun z => hn1.1 (z ▸ hb))) rr) (by rw [upd_ne pq]; exact hq) pr⟩, Ents.mono (Same.refl _) (fun x hx => upd_ne (np x hx)) h1⟩, ?_, fun x hx => ?_⟩
      · rw [upd_ne (ne_of_none e pI)]
        exact s x u e
      · rw [List.flatten_cons]
        have e : p :: (ps ++ [q]) ++ fs.flatten = (p :: ps) ++ ([q] ++ fs.flatten) := by simp
        rw [e]
        exact h2
      · have hx2 : x ∈ (p :: ps) ++ ([q] ++ fs.flatten) := by
          rw [List.flatten_cons] at hx
          have e : p :: (ps ++ [q]) ++ fs.flatten = (p :: ps) ++ ([q] ++ fs.flatten) := by simp
          rw [e] at hx
          exact hx
        refine ⟨(h3 x hx2).1, ?_⟩
        by_cases z : x = p
        · subst z; rw [upd_same]; exact fun y => nomatch y
        · rw [upd_ne z]; exact (h3 x hx2).2
end
end M
namespace M
open PySem PySem.Spec PyProof.Rows L2
noncomputable def lcO {α β : Type} (f : α → Res (List β)) (xs : List α) : Res (Mat β) := clo (if xs.length ≤ line then (mapR f xs).bind fun ys => .ok ⟨ys⟩ else .bad)
def mapS {α β S : Type} (f : α → S → Res (β × S)) : List α → S → Res (List β × S)
  | [], s => .ok ([], s)
  | x :: xs, s => (f x s).bind fun y => (mapS f xs y.2).bind fun z => .ok (y.1 :: z.1, z.2)
noncomputable def lcS {α β S : Type} (f : α → S → Res (β × S)) (xs : List α) (s : S) : Res (List β × S) := clo (if xs.length ≤ line then mapS f xs s else .bad)
section
variable {K : PySem.W.Frag} {mg : Str → Option Value} {I H I' H' : Hp} {σ σ' ρ : List (Option V)} {Γ Γ' Θ : List Cell} {i j n : Nat} {v v1 v2 v3 : V} {c c1 c2 : Cell} {o : Option V} {te tl ti : TE} {ta : TA} {tt : TT} {t u : TS} {dn db dc : L2.St → Hp → Prop} {dr : VK} {Q : VK} {W : WX}
variable {ω : Type} {P : ω → Prop} {X : Exn → Prop} {α β γ δ : Type}
theorem mapS_at {S : Type} {f : α → S → Res (β × S)} {xs : List α} {s : S} {x : α} (hx : xs[i]? = some x) : mapS f (xs.drop i) s = (f x s).bind fun y => (mapS f (xs.drop (i + 1)) y.2).bind fun z => .ok (y.1 :: z.1, z.2) := by
  obtain ⟨hi, e⟩ := List.getElem?_eq_some_iff.mp hx
  rw [List.drop_eq_getElem_cons hi, e]
  rfl
theorem st_lcmM [Rep α] [Rep β] {xs : List α} {J : It} {ρe : List (Option V)} {Θe : List Cell} {f : α → Res (List β)} {k : Mat β → Res ω} (hJ : Feeds K J xs ρe Θe)
    (E : Env K I H σ Γ (ρe ++ ρ) (Θe ++ Θ)) (hΓ : Γ[i]? = some c) (h : wp ((lcO f xs).bind k) P X)
    (next : ∀ ys I' H' v, Env K I' H' σ Γ (some v :: ρ) (.own ys :: Θ) → wp (k ys) P X → Q v H')
    (elt : ∀ x I' H' σ' ρ' Θ' (Qe : VK), Env K I' H' σ' (Γ.set i (.im x)) ρ' Θ' → wp (f x) (fun z => ∀ I'' H'' w, Env K I'' H'' σ' (Γ.set i (.im x)) (some w :: ρ') (.own z :: Θ') → Qe w H'') X → te σ' H' Qe) :
    LcG J (gName i) tYes te [i] σ H Q := by
  intro D hD
  have hi : i < Γ.length := (List.getElem?_eq_some_iff.mp hΓ).1
  unfold lcO at h
  rw [clo_eq] at h
  by_cases hz : xs.length ≤ line
  case neg =>
    rw [if_neg hz] at h
    exact h.elim
  rw [if_pos hz, Res.bind_assoc] at h
  obtain ⟨o, ho, E1⟩ := E.aside hΓ
  have E2 := E1.toStack (E1.2.2.newM (α := β) hD)
  -- the state: the list so far on top
  refine ⟨fun n m H' => m = xs.length - n ∧ n ≤ xs.length ∧ ∃ (acc : Mat β) (I' : Hp), acc.rows.length ≤ n ∧ Env K I' H' (σ.set i none) (Γ.set i .any) (some (.ref D) :: o :: (ρe ++ ρ)) (.own acc :: c :: (Θe ++ Θ)) ∧
    wp ((mapR f (xs.drop n)).bind fun ys => k ⟨acc.rows ++ ys⟩) P X, ⟨xs.length, by simp, Nat.zero_le _, ⟨[]⟩, I, Nat.le_refl _, E2, h⟩, ?_⟩
  rintro n m H' ⟨rfl, hn, acc, I', ha, E', h'⟩
  -- the walk's entries, seen
  have EJ : Env K I' H' (σ.set i none) (Γ.set i .any) (ρe ++ (some (.ref D) :: o :: ρ)) (Θe ++ (.own acc :: c :: Θ)) := by
    refine ⟨E'.1, ?_, E'.2.2.perm ((List.Perm.refl _).append ?_)⟩
    · have := E'.2.1
      have l := hJ.len
      simp only [List.length_append, List.length_cons] at this ⊢
      omega
    · have l := hJ.len
      show (((some (V.ref D), Cell.own acc) :: (o, c) :: ((ρe ++ ρ).zip (Θe ++ Θ)))).Perm _
      rw [List.zip_append l, List.zip_append l]
      show ((some (V.ref D), Cell.own acc) :: (o, c) :: (ρe.zip Θe ++ ρ.zip Θ)).Perm (ρe.zip Θe ++ ((some (V.ref D), Cell.own acc) :: (o, c) :: ρ.zip Θ))
      exact ((List.perm_middle.symm).cons _ |>.trans List.perm_middle.symm)
  by_cases hlt : n < xs.length
  · have hx : xs[n]? = some xs[n] := List.getElem?_eq_getElem hlt
    rw [mapR_at hx, Res.bind_assoc] at h'
    refine .inr ⟨hJ.go n EJ hlt, fun H2 => ∃ (acc : Mat β) (I' : Hp), acc.rows.length ≤ n + 1 ∧ Env K I' H2 (σ.set i none) (Γ.set i .any) (some (.ref D) :: o :: (ρe ++ ρ)) (.own acc :: c :: (Θe ++ Θ)) ∧
      wp ((mapR f (xs.drop (n + 1))).bind fun ys => k ⟨acc.rows ++ ys⟩) P X, fun H2 z => ⟨xs.length - (n + 1), by omega, rfl, hlt, z⟩, fun y H2 hyl => ?_⟩
    obtain ⟨I2, g2, ry⟩ := hJ.yld n y H2 _ EJ hx hyl
    have E3 := ((E'.grow g2).push ry).store (i := i) (Γ' := Γ.set i (.im xs[n])) (by simpa using hi) (by rw [List.set_set])
    refine ⟨by show ((wipe σ [i]).set i (some y)).set i none = wipe σ [i]; rw [wipe1, List.set_set, List.set_set], ?_⟩
    have back : ∀ {I3 H3 : Hp} {ρ' : List (Option V)} {Θ' : List Cell}, Env K I3 H3 ((wipe σ [i]).set i (some y)) (Γ.set i (.im xs[n])) ρ' Θ' → Env K I3 H3 (σ.set i none) (Γ.set i .any) ρ' Θ' := by
      intro I3 H3 ρ' Θ' Z
      have z1 := Z.weak (wkAny (i := i))
      rw [List.set_set] at z1
      have z2 := Env.anyOf z1 hi
      rw [wipe1, List.set_set, List.set_set] at z2
      exact z2
    refine elt xs[n] I2 H2 _ _ _ _ E3 (wpb h' fun z h2 I4 H4 w E5 => ?_)
    rw [Res.bind_assoc] at h2
    have E6 := back E5
    have u0 := E6.unstack
    have u1 : EnvL K I4 H4 ((some (V.ref D), .own acc) :: (some w, .own z) :: ((σ.set i none).zip (Γ.set i .any) ++ (o :: (ρe ++ ρ)).zip (c :: (Θe ++ Θ)))) := by
      refine u0.perm ?_
      exact (List.Perm.cons _ List.perm_middle).trans (.swap _ _ _)
    obtain ⟨p, vs, e1, hp, hl, _⟩ := u1.ownM
    cases e1
    refine ⟨vs, hp, by rw [hl, ← line_eq]; omega, ⟨acc.rows ++ [z]⟩, I4, by show (acc.rows ++ [z]).length ≤ n + 1; rw [List.length_append]; simp; exact ha, ?_, ?_⟩
    · exact (Env.pop (Env.pop E6)).toStack (u1.snocM hp)
    · have e : (fun ys => k ⟨acc.rows ++ z :: ys⟩) = fun ys => k ⟨(acc.rows ++ [z]) ++ ys⟩ := by
        funext ys
        rw [List.append_assoc]
        rfl
      rw [← e]
      exact h2
  · have e : n = xs.length := by omega
    subst e
    rw [List.drop_eq_nil_of_le (Nat.le_refl _)] at h'
    have h' : wp (k ⟨acc.rows ++ []⟩) P X := h'
    rw [List.append_nil] at h'
    refine .inl ⟨hJ.stop _ EJ (Nat.le_refl _), next acc I' H' _ ?_ h'⟩
    -- the entry back, the walk's entries gone
    have E7 : Env K I' H' (σ.set i none) (Γ.set i .any) (ρe ++ (o :: some (.ref D) :: ρ)) (Θe ++ (c :: .own acc :: Θ)) := by
      refine ⟨EJ.1, by have := EJ.2.1; simp only [List.length_append, List.length_cons] at this ⊢; omega, EJ.2.2.perm ((List.Perm.refl _).append ?_)⟩
      rw [List.zip_append hJ.len, List.zip_append hJ.len]
      exact (List.Perm.refl _).append (.swap _ _ _)
    exact (E7.drops hJ.len).again ho hΓ
theorem st_lcs {S : Type} [Rep α] [Rep β] {xs : List α} {J : It} {ρe : List (Option V)} {Θe : List Cell} {f : α → S → Res (β × S)} {k : List β × S → Res ω} {s0 : S} (G : S → List Cell) (hJ : Feeds K J xs ρe Θe)
    (E : Env K I H σ (G s0) (ρe ++ ρ) (Θe ++ Θ)) (hΓ : ∀ s, (G s)[i]? = some c) (h : wp ((lcS f xs s0).bind k) P X)
    (next : ∀ ys s I' H' v, Env K I' H' σ (G s) (some v :: ρ) (.own ys :: Θ) → wp (k (ys, s)) P X → Q v H')
    (elt : ∀ x s I' H' σ' ρ' Θ' (Qe : VK), Env K I' H' σ' ((G s).set i (.im x)) ρ' Θ' → wp (f x s) (fun z => ∀ I'' H'' w, Env K I'' H'' σ' ((G z.2).set i (.im x)) (some w :: ρ') (.im z.1 :: Θ') → Qe w H'') X → te σ' H' Qe) :
    LcG J (gName i) tYes te [i] σ H Q := by
  intro D hD
  have hi : ∀ s, i < (G s).length := fun s => (List.getElem?_eq_some_iff.mp (hΓ s)).1
  unfold lcS at h
  rw [clo_eq] at h
  by_cases hz : xs.length ≤ line
  case neg =>
    rw [if_neg hz] at h
    exact h.elim
  rw [if_pos hz] at h
  obtain ⟨o, ho, E1⟩ := E.aside (hΓ s0)
  have E2 := E1.newL (α := β) (vs := []) (xs := []) hD .nil
  -- the state: the list so far on top
  refine ⟨fun n m H' => m = xs.length - n ∧ n ≤ xs.length ∧ ∃ (acc : List β) (s : S) (I' : Hp), acc.length ≤ n ∧ Env K I' H' (σ.set i none) ((G s).set i .any) (some (.ref D) :: o :: (ρe ++ ρ)) (.own acc :: c :: (Θe ++ Θ)) ∧
    wp ((mapS f (xs.drop n) s).bind fun z => k (acc ++ z.1, z.2)) P X, ⟨xs.length, by simp, Nat.zero_le _, [], s0, I, Nat.le_refl _, E2, h⟩, ?_⟩
  rintro n m H' ⟨rfl, hn, acc, s1, I', ha, E', h'⟩
  -- the walk's entries, seen
  have EJ : Env K I' H' (σ.set i none) ((G s1).set i .any) (ρe ++ (some (.ref D) :: o :: ρ)) (Θe ++ (.own acc :: c :: Θ)) := by
    refine ⟨E'.1, ?_, E'.2.2.perm ((List.Perm.refl _).append ?_)⟩
    · have := E'.2.1
      have l := hJ.len
      simp only [List.length_append, List.length_cons] at this ⊢
      omega
    · have l := hJ.len
      show (((some (V.ref D), Cell.own acc) :: (o, c) :: ((ρe ++ ρ).zip (Θe ++ Θ)))).Perm _
      rw [List.zip_append l, List.zip_append l]
      show ((some (V.ref D), Cell.own acc) :: (o, c) :: (ρe.zip Θe ++ ρ.zip Θ)).Perm (ρe.zip Θe ++ ((some (V.ref D), Cell.own acc) :: (o, c) :: ρ.zip Θ))
      exact ((List.perm_middle.symm).cons _ |>.trans List.perm_middle.symm)
  by_cases hlt : n < xs.length
  · have hx : xs[n]? = some xs[n] := List.getElem?_eq_getElem hlt
    rw [mapS_at hx, Res.bind_assoc] at h'
    refine .inr ⟨hJ.go n EJ hlt, fun H2 => ∃ (acc : List β) (s : S) (I' : Hp), acc.length ≤ n + 1 ∧ Env K I' H2 (σ.set i none) ((G s).set i .any) (some (.ref D) :: o :: (ρe ++ ρ)) (.own acc :: c :: (Θe ++ Θ)) ∧
      wp ((mapS f (xs.drop (n + 1)) s).bind fun z => k (acc ++ z.1, z.2)) P X, fun H2 z => ⟨xs.length - (n + 1), by omega, rfl, hlt, z⟩, fun y H2 hyl => ?_⟩
    obtain ⟨I2, g2, ry⟩ := hJ.yld n y H2 _ EJ hx hyl
    have E3 := ((E'.grow g2).push ry).store (i := i) (Γ' := (G s1).set i (.im xs[n])) (by simpa using hi s1) (by rw [List.set_set])
    refine ⟨by show ((wipe σ [i]).set i (some y)).set i none = wipe σ [i]; rw [wipe1, List.set_set, List.set_set], ?_⟩
    have back : ∀ {s : S} {I3 H3 : Hp} {ρ' : List (Option V)} {Θ' : List Cell}, Env K I3 H3 ((wipe σ [i]).set i (some y)) ((G s).set i (.im xs[n])) ρ' Θ' → Env K I3 H3 (σ.set i none) ((G s).set i .any) ρ' Θ' := by
      intro s I3 H3 ρ' Θ' Z
      have z1 := Z.weak (wkAny (i := i))
      rw [List.set_set] at z1
      have z2 := Env.anyOf z1 (hi s)
      rw [wipe1, List.set_set, List.set_set] at z2
      exact z2
    refine elt xs[n] s1 I2 H2 _ _ _ _ E3 (wpb h' fun z h2 I4 H4 w E5 => ?_)
    rw [Res.bind_assoc] at h2
    have E6 := back E5
    have rz := E6.topR
    obtain ⟨p, vs, e1, hp, _, q, ch, _⟩ := E6.pop.unstack.ownL
    cases e1
    have hlen : vs.length = acc.length := Paired.length q
    refine ⟨vs, hp, by rw [hlen, ← line_eq]; omega, acc ++ [z.1], z.2, I4, by rw [List.length_append]; simp; exact ha, ?_, ?_⟩
    · exact E6.pop.pop.toStack (ch (Grow.refl E6.same) _ _ (paired_app q (.cons rz .nil)))
    · have e : (fun (y : List β × S) => k (acc ++ z.1 :: y.1, y.2)) = fun y => k ((acc ++ [z.1]) ++ y.1, y.2) := by
        funext y
        rw [List.append_assoc]
        rfl
      rw [← e]
      exact h2
  · have e : n = xs.length := by omega
    subst e
    rw [List.drop_eq_nil_of_le (Nat.le_refl _)] at h'
    have h' : wp (k (acc ++ [], s1)) P X := h'
    rw [List.append_nil] at h'
    refine .inl ⟨hJ.stop _ EJ (Nat.le_refl _), next acc s1 I' H' _ ?_ h'⟩
    -- the entry back, the walk's entries gone
    have E7 : Env K I' H' (σ.set i none) ((G s1).set i .any) (ρe ++ (o :: some (.ref D) :: ρ)) (Θe ++ (c :: .own acc :: Θ)) := by
      refine ⟨EJ.1, by have := EJ.2.1; simp only [List.length_append, List.length_cons] at this ⊢; omega, EJ.2.2.perm ((List.Perm.refl _).append ?_)⟩
      rw [List.zip_append hJ.len, List.zip_append hJ.len]
      exact (List.Perm.refl _).append (.swap _ _ _)
    exact (E7.drops hJ.len).again ho (hΓ s1)

/-! ### items of owned lists of lists -/
def mSet {α : Type} (m : Mat α) (i j : Int) (y : α) : Res (Mat α) := (lGet m.rows i).bind fun r => (lSet r j y).bind fun r' => (lSet m.rows i r').bind fun rows => .ok ⟨rows⟩
def mGet {α : Type} (m : Mat α) (i j : Int) : Res α := (lGet m.rows i).bind fun r => lGet r j
def mPut {α : Type} (m : Mat α) (i : Int) (r : List α) (j : Int) (y : α) : Res (Mat α) := (lSet r j y).bind fun r' => (lSet m.rows i r').bind fun rows => .ok ⟨rows⟩
noncomputable def mApp {α : Type} (m : Mat α) (i : Int) (y : α) : Res (Mat α) := (lGet m.rows i).bind fun r => (lApp r y).bind fun r' => (lSet m.rows i r').bind fun rows => .ok ⟨rows⟩
theorem Env.matAt [Rep α] {m : Mat α} {pn : Option V} (E : Env K I H σ Γ ρ Θ) (h : Γ[i]? = some (.own m pn)) : ∃ p vs, σ[i]? = some (some (.ref p)) ∧ H p = some (.lst vs) ∧ vs.length = m.rows.length ∧
    ∀ (j : Nat) (r : List α), m.rows[j]? = some r → ∃ q ws, vs[j]? = some (.ref q) ∧ H q = some (.lst ws) ∧ Paired (fun v x => Rep.rp K I v x) ws r ∧
      ∀ (ws' : List V) (r' : List α), Paired (fun v x => Rep.rp K I v x) ws' r' → Env K I (upd H q (.lst ws')) σ (Γ.set i (.own (Mat.mk (m.rows.set j r')) pn)) ρ Θ := by
  obtain ⟨o, r, ho, e, back⟩ := E.pick h
  obtain ⟨p, vs, e1, hp, hl, at_⟩ := e.ownM
  subst e1
  have ss : σ.set i (some (V.ref p)) = σ := set_same ho
  refine ⟨p, vs, ho, hp, hl, fun j r hr => ?_⟩
  obtain ⟨q, ws, a, b, c, ch⟩ := at_ j r hr
  refine ⟨q, ws, a, b, c, fun ws' r' pr => ?_⟩
  have z := back _ _ (ch ws' r' pr)
  rw [ss] at z
  exact z
theorem atI_ix {α : Type} {xs : List α} {i : Int} {x : α} (h : atI xs i = some x) : ∃ n, ixN xs.length i = some n ∧ xs[n]? = some x := by
  unfold atI at h
  cases e : ixN xs.length i with
  | none => rw [e] at h; cases h
  | some n => rw [e] at h; exact ⟨n, rfl, h⟩
theorem lSet_of {α : Type} {xs : List α} {i : Int} {n : Nat} {y : α} (h : ixN xs.length i = some n) : lSet xs i y = .ok (xs.set n y) := by unfold lSet; rw [h]
/-- marks[i][j] = e -/
theorem st_setM [Rep α] {m : Mat α} {y : α} {t1 t2 : TE} {m1 m2 : Res Int} {k : Mat α → Res ω} {Γ' : Mat α → List Cell} {pn : Option V} {dn : L2.St → Hp → Prop} (E : Env K I H σ Γ (some v :: ρ) (.im y :: Θ)) (hΓ : Γ[i]? = some (.own m pn)) (h1 : HF K t1 Γ m1) (h2 : HF K t2 Γ m2)
    (h : wp (m1.bind fun a => (lGet m.rows a).bind fun r => m2.bind fun b => (mPut m a r b y).bind k) P X) (hs : ∀ x, Γ.set i (.own x pn) = Γ' x) (next : ∀ ys H', Env K I H' σ (Γ' ys) ρ Θ → wp (k ys) P X → dn σ H') : gSub (tOp (rIxL K) (tVar i) t1) t2 rSetL v σ H dn := by
  obtain ⟨p, vs, hs1, hp, hl, at_⟩ := E.matAt hΓ
  refine ⟨_, hs1, h1.run X _ E (wpb h fun a h _ => ?_)⟩
  unfold lGet at h
  cases ea : atI m.rows a with
  | none => rw [ea] at h; exact h.elim
  | some r =>
    rw [ea, Res.bind_ok] at h
    obtain ⟨n, en, er⟩ := atI_ix ea
    obtain ⟨q, ws, e1, hq, pr, ch⟩ := at_ n r er
    refine ⟨p, vs, a, .ref q, rfl, rfl, SqL.of hp, ?_, ?_⟩
    · unfold atI
      rw [hl, en]
      exact e1
    · refine h2.run X _ E (wpb h fun b h _ => ?_)
      unfold mPut lSet at h
      cases eb : ixN r.length b with
      | none => rw [eb] at h; exact h.elim
      | some n2 =>
        rw [eb, Res.bind_ok, en, Res.bind_ok, Res.bind_ok] at h
        refine ⟨q, ws, b, n2, rfl, rfl, hq, by rw [Paired.length pr]; exact eb, ?_⟩
        have z := (ch _ _ (paired_set E.topR (k := n2) pr)).pop
        rw [hs] at z
        exact next _ _ z h
/-- marks[i][j] -/
theorem hf_mGet [Sca α] {m : Mat α} {pn : Option V} {t1 t2 : TE} {m1 m2 : Res Int} (hΓ : Γ[i]? = some (.own m pn)) (h1 : HF K t1 Γ m1) (h2 : HF K t2 Γ m2) : HF K (tOp (rIxL K) (tOp (rIxL K) (tVar i) t1) t2) Γ (m1.bind fun a => (lGet m.rows a).bind fun r => m2.bind fun b => lGet r b) := .mk fun X Q E q => by
  obtain ⟨p, vs, hs1, hp, hl, at_⟩ := E.matAt hΓ
  refine ⟨_, hs1, h1.run X _ E (wpb q fun a q _ => ?_)⟩
  unfold lGet at q
  cases ea : atI m.rows a with
  | none => rw [ea] at q; exact q.elim
  | some r =>
    rw [ea, Res.bind_ok] at q
    obtain ⟨n, en, er⟩ := atI_ix ea
    obtain ⟨w, ws, e1, hq, pr, ch⟩ := at_ n r er
    refine ⟨p, vs, a, .ref w, rfl, rfl, SqL.of hp, ?_, ?_⟩
    · unfold atI
      rw [hl, en]
      exact e1
    · refine h2.run X _ E (wpb q fun b q _ => ?_)
      cases eb : atI r b with
      | none => rw [eb] at q; exact q.elim
      | some x =>
        rw [eb] at q
        obtain ⟨u, e2, r2⟩ := atI_paired pr eb
        have r' : u = enc x ∧ okv x := r2
        refine ⟨w, ws, b, u, rfl, rfl, SqL.of hq, e2, ?_⟩
        rw [r'.1]
        exact q r'.2
end
end M
namespace M
open PySem PySem.Spec PyProof.Rows L2
/-- how many steps of `c` a range has -/
def stepN (a b c : Int) : Nat := (Builtin.Range.rangeSize a b c).toNat
def stepL (a b c : Int) : List Int := (List.range (stepN a b c)).map fun (k : Nat) => a + (k : Int) * c
open Classical in
noncomputable def rngS (a b c : Int) : Res (List Int) := clo (if c.natAbs < 1073741824 ∧ RgC a b c (stepN a b c) then .ok (stepL a b c) else .bad)
section
variable {K : PySem.W.Frag} {mg : Str → Option Value} {I H I' H' : Hp} {σ σ' ρ : List (Option V)} {Γ Γ' Θ : List Cell} {i j n : Nat} {v v1 v2 v3 : V} {c c1 c2 : Cell} {o : Option V} {te tl ti : TE} {ta : TA} {tt : TT} {t u : TS}
variable {ω : Type} {P : ω → Prop} {X : Exn → Prop} {α β γ δ : Type}
theorem it_rngc0 {R : It → Hp → Prop} {lo c : Int} {n : Nat} (next : ∀ J, Feeds K J ((List.range n).map fun (i : Nat) => lo + (i : Int) * c) [] [] → R J H) : R (Itc lo c n) H := by
  refine next _ ⟨rfl, fun i _ hi => (show i < n by simpa using hi), fun {I H} {_ _} {_ _} i x H' a E hx hy => ?_, fun i _ hi => (show n ≤ i by simpa using hi)⟩
  obtain ⟨rfl, rfl⟩ := hy
  refine ⟨I, Grow.refl E.same, ?_⟩
  have hi : i < n := by
    have := (List.getElem?_eq_some_iff.mp hx).1
    simpa using this
  have e : lo + (i : Int) * c = a := by
    rw [List.getElem?_map, List.getElem?_range hi] at hx
    exact Option.some.inj hx
  exact ⟨by rw [e]; rfl, trivial⟩
theorem it_rng3 {R : It → Hp → Prop} {t1 t2 t3 : TE} {m1 m2 m3 : Res Int} {k : List Int → Res ω} (E : Env K I H σ Γ ρ Θ) (h1 : HF K t1 Γ m1) (h2 : HF K t2 Γ m2) (h3 : HF K t3 Γ m3) (h : wp (m1.bind fun a => m2.bind fun b => m3.bind fun d => (rngS a b d).bind k) P X)
    (next : ∀ xs, wp (k xs) P X → ∀ J, Feeds K J xs [] [] → R J H) : iRng3 (tCons t1 (tCons t2 (tCons t3 tNil))) σ H R := h1.run X _ E (wpb h fun a h _ => h2.run X _ E (wpb h fun b h _ => h3.run X _ E (wpb h fun d h _ => by
  unfold rngS at h
  rw [clo_eq] at h
  by_cases hr : d.natAbs < 1073741824 ∧ RgC a b d (stepN a b d)
  · rw [if_pos hr] at h
    exact ⟨a, b, d, _, rfl, hr.2, it_rngc0 (next _ h)⟩
  · rw [if_neg hr] at h
    exact h.elim)))
end
/-- what a range of steps up holds -/
theorem stepN_up {a b c : Int} (hc : 0 < c) : stepN a b c = ((b - a + c - 1) / c).toNat := by
  unfold stepN Builtin.Range.rangeSize
  rw [if_pos (show c > 0 from hc)]
  by_cases h : a < b
  · rw [if_pos h]
    have : b - a + c - 1 = (b - a - 1) + 1 * c := by omega
    rw [this, Int.add_mul_ediv_right _ _ (by omega)]
  · rw [if_neg h]
    by_cases e : b - a + c - 1 < 0
    · have := Int.ediv_neg_of_neg_of_pos e hc
      omega
    · rw [Int.ediv_eq_zero_of_lt (by omega) (by omega)]
theorem mem_stepL_up {a b c x : Int} (hc : 0 < c) : x ∈ stepL a b c ↔ a ≤ x ∧ x < b ∧ ∃ k : Nat, x = a + (k : Int) * c := by
  unfold stepL
  rw [List.mem_map, stepN_up hc]
  constructor
  · rintro ⟨k, hk, rfl⟩
    rw [List.mem_range] at hk
    have h0 : (0 : Int) ≤ (k : Int) * c := Int.mul_nonneg (by omega) (by omega)
    refine ⟨by omega, ?_, k, rfl⟩
    have h1 : (k : Int) + 1 ≤ (b - a + c - 1) / c := by omega
    have h2 := (Int.le_ediv_iff_mul_le hc).mp h1
    have h3 : ((k : Int) + 1) * c = (k : Int) * c + c := by rw [Int.add_mul, Int.one_mul]
    omega
  · rintro ⟨h1, h2, k, rfl⟩
    refine ⟨k, ?_, rfl⟩
    rw [List.mem_range]
    have h3 : ((k : Int) + 1) * c = (k : Int) * c + c := by rw [Int.add_mul, Int.one_mul]
    have h4 : (k : Int) + 1 ≤ (b - a + c - 1) / c := (Int.le_ediv_iff_mul_le hc).mpr (by omega)
    omega
end M
namespace M
open PySem PySem.Spec PyProof.Rows L2
/-! ### values of several types: data -/
mutual
theorem dp_mono {K : PySem.W.Frag} {I J : Hp} (e : Same I J) : ∀ {v : V} {d : PyData}, Dp K I v d → Dp K J v d
  | _, _, .non => .non
  | _, _, .bl b => .bl b
  | _, _, .int i => .int i
  | _, _, .str x => .str x
  | _, _, .lst h t => .lst (e.seq h) (dpAll_mono e t)
  | _, _, .tup h t => .tup (same_seqT e h) (dpAll_mono e t)
theorem dpAll_mono {K : PySem.W.Frag} {I J : Hp} (e : Same I J) : ∀ {vs : List V} {ds : List PyData}, DpAll K I vs ds → DpAll K J vs ds
  | _, _, .nil => .nil
  | _, _, .cons h t => .cons (dp_mono e h) (dpAll_mono e t)
end
instance repDt : Rep PyData := ⟨fun K I v d => Dp K I v d, fun e h => dp_mono e h⟩
theorem dpAllD {K : PySem.W.Frag} {I : Hp} : ∀ {vs : List V} {ds : List PyData}, Paired (fun v d => Dp K I v d) vs ds → DpAll K I vs ds
  | _, _, .nil => .nil
  | _, _, .cons r t => .cons r (dpAllD t)
def isNonD : PyData → Bool
  | .none => true
  | _ => false
/-- what isinstance tells of data -/
def isD (T : String) : PyData → Bool
  | .none => T == "NoneType"
  | .bool _ => T == "bool" || T == "int"
  | .int _ => T == "int"
  | .str _ => T == "str"
  | .list _ => T == "list"
  | .tuple _ => T == "tuple"
  | .dict _ => T == "dict"
def eqV (x y : PyData) : Res Bool := if (SeqAt.shaped x && SeqAt.shaped y) = true then .ok (PyData.eqv x y) else .bad
def neV (x y : PyData) : Res Bool := if (SeqAt.shaped x && SeqAt.shaped y) = true then .ok (!PyData.eqv x y) else .bad
section
variable {K : PySem.W.Frag} {mg : Str → Option Value} {I H I' H' : Hp} {σ σ' ρ : List (Option V)} {Γ Γ' Θ : List Cell} {i j n : Nat} {v v1 v2 v3 : V} {c c1 c2 : Cell} {o : Option V} {te tl ti to : TE} {ta : TA} {tt : TT} {t u : TS} {dn db dc : L2.St → Hp → Prop} {dr : VK} {Q : VK} {W : WX}
variable {ω : Type} {P : ω → Prop} {X : Exn → Prop} {α β γ δ : Type}
/-- the top of the stack as data -/
theorem Env.toDt [Rep α] [DecidableEq α] [Dat α] {x : α} (E : Env K I H σ Γ (some v :: ρ) (.im x :: Θ)) : Env K I H σ Γ (some v :: ρ) (.im (Dat.toD x) :: Θ) := E.pop.push (a := Dat.toD x) (Dat.dp (α := α) E.topR)
theorem Env.unitDt {x : Unit} (E : Env K I H σ Γ (some v :: ρ) (.im x :: Θ)) : Env K I H σ Γ (some v :: ρ) (.im PyData.none :: Θ) := E.pop.push (a := PyData.none) (by
  have h : v = V.non ∧ True := E.topR
  rw [h.1]
  exact Dp.non)
theorem Env.tupDt {ds : List PyData} (E : Env K I H σ Γ (some v :: ρ) (.im (TupL.mk ds) :: Θ)) : Env K I H σ Γ (some v :: ρ) (.im (PyData.tuple ds) :: Θ) := E.pop.push (a := PyData.tuple ds) (by
  obtain ⟨a, vs, rfl, hq, p⟩ := E.topR
  exact .tup hq (dpAllD p))
theorem Env.lstDt {ds : List PyData} (E : Env K I H σ Γ (some v :: ρ) (.im ds :: Θ)) : Env K I H σ Γ (some v :: ρ) (.im (PyData.list ds) :: Θ) := E.pop.push (a := PyData.list ds) (by
  obtain ⟨a, vs, rfl, hq, p⟩ := E.topR
  exact .lst (SqL.of hq) (dpAllD p))
theorem st_eqV {x y : PyData} {k : Bool → Res ω} (E : Env K I H σ Γ (some v2 :: some v1 :: ρ) (.im y :: .im x :: Θ)) (h : wp ((eqV x y).bind k) P X)
    (next : ∀ b v, Env K I H σ Γ (some v :: ρ) (.im b :: Θ) → wp (k b) P X → Q v H) : OpG (rEqD K) v1 v2 H Q := by
  unfold eqV at h
  split at h
  · rename_i hb
    have hb := (Bool.and_eq_true _ _).mp hb
    exact ⟨_, _, dp_mono E.same (show Dp K I v1 x from E.pop.topR), dp_mono E.same (show Dp K I v2 y from E.topR), hb.1, hb.2, next _ _ (E.pop.pop.pushS (a := PyData.eqv x y) trivial) h⟩
  · exact h.elim
theorem st_neV {x y : PyData} {k : Bool → Res ω} (E : Env K I H σ Γ (some v2 :: some v1 :: ρ) (.im y :: .im x :: Θ)) (h : wp ((neV x y).bind k) P X)
    (next : ∀ b v, Env K I H σ Γ (some v :: ρ) (.im b :: Θ) → wp (k b) P X → Q v H) : OpG (rNeD K) v1 v2 H Q := by
  unfold neV at h
  split at h
  · rename_i hb
    have hb := (Bool.and_eq_true _ _).mp hb
    exact ⟨_, _, dp_mono E.same (show Dp K I v1 x from E.pop.topR), dp_mono E.same (show Dp K I v2 y from E.topR), hb.1, hb.2, next _ _ (E.pop.pop.pushS (a := !PyData.eqv x y) trivial) h⟩
  · exact h.elim
theorem Env.datAt {d : PyData} (E : Env K I H σ Γ ρ Θ) (h : Γ[i]? = some (.im d)) : ∃ v, σ[i]? = some (some v) ∧ Dp K I v d := by
  obtain ⟨v, hs, r⟩ := E.get h
  exact ⟨v, hs, r⟩
def rIsNn : R2 := fun x y H Q => y = .non ∧ Q (.bl (decide (x = .non))) H
def rNotNn : R2 := fun x y H Q => y = .non ∧ Q (.bl (!decide (x = .non))) H
theorem dp_non {d : PyData} (h : Dp K I v d) : decide (v = V.non) = isNonD d := by
  cases h <;> rfl
theorem hf_isNon {d : PyData} (hΓ : Γ[i]? = some (.im d)) : HF K (tOp rIsNn (tVar i) (tC .non)) Γ (.ok (isNonD d)) := .mk fun X Q E q => by
  obtain ⟨v, hs, r⟩ := E.datAt hΓ
  refine ⟨v, hs, rfl, ?_⟩
  rw [dp_non r]
  exact q trivial
theorem hf_notNon {d : PyData} (hΓ : Γ[i]? = some (.im d)) : HF K (tOp rNotNn (tVar i) (tC .non)) Γ (.ok (!isNonD d)) := .mk fun X Q E q => by
  obtain ⟨v, hs, r⟩ := E.datAt hΓ
  refine ⟨v, hs, rfl, ?_⟩
  rw [dp_non r]
  exact q trivial
theorem dp_ty {d : PyData} (h : Dp K H v d) : ∃ t : String, TyX K H v (.type t) ∧ ∀ T : String, (T = "int" ∨ T = "bool" ∨ T = "str" ∨ T = "list" ∨ T = "tuple") → ∀ K, PySem.W.kitOne K (.type t) (.type T) = some (isD T d) := by
  cases h with
  | non => exact ⟨_, .base .non, fun T hT K => by rcases hT with rfl | rfl | rfl | rfl | rfl <;> rfl⟩
  | bl b => exact ⟨_, .base (.bl b), fun T hT K => by rcases hT with rfl | rfl | rfl | rfl | rfl <;> rfl⟩
  | int i => exact ⟨_, .base (.int i), fun T hT K => by rcases hT with rfl | rfl | rfl | rfl | rfl <;> rfl⟩
  | str x => exact ⟨_, .base (.str x), fun T hT K => by rcases hT with rfl | rfl | rfl | rfl | rfl <;> rfl⟩
  | lst h t =>
    refine ⟨"list", ?_, fun T hT K => by rcases hT with rfl | rfl | rfl | rfl | rfl <;> rfl⟩
    rcases h with (h | ⟨o, h⟩) | ⟨o, _, _, h1, h2, _⟩
    · exact .base (.lst h)
    · exact .base (.frz h)
    · exact .kList h1 h2
  | tup h t =>
    refine ⟨"tuple", ?_, fun T hT K => by rcases hT with rfl | rfl | rfl | rfl | rfl <;> rfl⟩
    rcases h with (h | ⟨o, h⟩) | ⟨o, _, _, h1, h2, _⟩
    · exact .base (.tup h)
    · exact .fTuple h
    · exact .kTuple h1 h2
theorem hf_isDt {d : PyData} {T : String} (hΓ : Γ[i]? = some (.im d)) (hT : T = "int" ∨ T = "bool" ∨ T = "str" ∨ T = "list" ∨ T = "tuple") : HF K (tIsi K i T) Γ (.ok (isD T d)) := .mk fun X Q E q => by
  obtain ⟨v, hs, r⟩ := E.datAt hΓ
  obtain ⟨t, ty, k⟩ := dp_ty (dp_mono E.same r)
  exact ⟨v, hs, _, _, _, _, _, rfl, .ty T, ty, k T hT K, q trivial⟩
/-! ### range with calls in it: its ends on the stack -/
def RgG1 (vs : List V) (H1 : Hp) (R : It → Hp → Prop) : Prop := ∃ j, vs = [V.int j] ∧ -2 ^ 62 ≤ j ∧ j < 2 ^ 62 ∧ R (Itr 0 j.toNat) H1
def RgG2 (vs : List V) (H1 : Hp) (R : It → Hp → Prop) : Prop := ∃ i j, vs = [V.int i, V.int j] ∧ (-2 ^ 62 ≤ i ∧ i < 2 ^ 62 ∧ -2 ^ 62 ≤ j ∧ j < 2 ^ 62) ∧ R (Itr i (j - i).toNat) H1
theorem uRng1 {R : It → Hp → Prop} (h : ta σ H fun vs H1 => RgG1 vs H1 R) : iRng1 ta σ H R := h
theorem uRng2 {R : It → Hp → Prop} (h : ta σ H fun vs H1 => RgG2 vs H1 R) : iRng2 ta σ H R := h
theorem it_rng1S {R : It → Hp → Prop} {b : Int} {k : List Int → Res ω} (E : Env K I H σ Γ (some v :: ρ) (.im b :: Θ)) (h : wp ((rngR 0 b).bind k) P X)
    (next : ∀ xs, wp (k xs) P X → Env K I H σ Γ ρ Θ → ∀ J, Feeds K J xs [] [] → R J H) : RgG1 [v] H R := by
  have e := E.topS
  unfold rngR at h
  rw [clo_eq] at h
  by_cases hr : RgOk 0 b
  · rw [if_pos hr] at h
    have e2 : (b - 0).toNat = b.toNat := by omega
    unfold rng at h
    rw [e2] at h
    exact ⟨b, by rw [e.1]; rfl, hr.2.2.1, hr.2.2.2, it_rng0 (next _ h E.pop)⟩
  · rw [if_neg hr] at h
    exact h.elim
theorem it_rng2S {R : It → Hp → Prop} {a b : Int} {k : List Int → Res ω} (E : Env K I H σ Γ (some v2 :: some v1 :: ρ) (.im b :: .im a :: Θ)) (h : wp ((rngR a b).bind k) P X)
    (next : ∀ xs, wp (k xs) P X → Env K I H σ Γ ρ Θ → ∀ J, Feeds K J xs [] [] → R J H) : RgG2 [v1, v2] H R := by
  have e := E.topS
  have e1 := E.pop.topS
  unfold rngR at h
  rw [clo_eq] at h
  by_cases hr : RgOk a b
  · rw [if_pos hr] at h
    exact ⟨a, b, by rw [e.1, e1.1]; rfl, hr, it_rng0 (next _ h E.pop.pop)⟩
  · rw [if_neg hr] at h
    exact h.elim
/-! ### ''.join -/
end
def joinT (sep : Tx) : List Tx → Tx
  | [] => []
  | x :: xs => xs.foldl (fun acc p => acc ++ sep ++ p) x
noncomputable def lJoin (sep : Tx) (xs : List Tx) : Res Tx := clo (if (xs.map (·.length)).sum + xs.length * sep.length ≤ 16777216 then .ok (joinT sep xs) else .bad)
theorem foldl_join (sep : Tx) : ∀ (xs : List Tx) (acc : Tx), (xs.map mkS).foldl (fun (acc : Array Nat) p => acc ++ (mkS sep).cps ++ p.cps) acc.toArray = (xs.foldl (fun acc p => acc ++ sep ++ p) acc).toArray
  | [], acc => rfl
  | x :: xs, acc => by
    rw [List.map_cons, List.foldl_cons, List.foldl_cons, ← foldl_join sep xs]
    congr 1
    show acc.toArray ++ sep.toArray ++ x.toArray = _
    rw [List.append_toArray, List.append_toArray]
theorem join_mk (sep : Tx) (xs : List Tx) : Txt.join (mkS sep) (xs.map mkS) = mkS (joinT sep xs) := by
  cases xs with
  | nil => rfl
  | cons x xs =>
    show Str.mk _ = Str.mk _
    congr 1
    exact foldl_join sep xs x
theorem foldl_join_len (sep : Tx) : ∀ (xs : List Tx) (acc : Tx), (xs.foldl (fun acc p => acc ++ sep ++ p) acc).length = acc.length + (xs.map (·.length)).sum + xs.length * sep.length
  | [], acc => by simp
  | x :: xs, acc => by
    rw [List.foldl_cons, foldl_join_len sep xs, List.map_cons, List.sum_cons, List.length_cons, Nat.add_mul, Nat.one_mul, List.length_append, List.length_append]
    omega
theorem joinT_len (sep : Tx) (xs : List Tx) : (joinT sep xs).length ≤ (xs.map (·.length)).sum + xs.length * sep.length := by
  cases xs with
  | nil => exact Nat.zero_le _
  | cons x xs =>
    show (xs.foldl (fun acc p => acc ++ sep ++ p) x).length ≤ _
    rw [foldl_join_len, List.map_cons, List.sum_cons, List.length_cons, Nat.add_mul]
    omega
theorem joinT_nil (xs : List Tx) : joinT [] xs = xs.flatten := by
  cases xs with
  | nil => rfl
  | cons x xs =>
    show xs.foldl (fun acc p => acc ++ [] ++ p) x = _
    rw [List.flatten_cons]
    have : ∀ (xs : List Tx) (acc : Tx), xs.foldl (fun acc p => acc ++ [] ++ p) acc = acc ++ xs.flatten := by
      intro xs
      induction xs with
      | nil => intro acc; simp
      | cons y ys ih => intro acc; rw [List.foldl_cons, ih, List.flatten_cons]; simp
    exact this xs x
section
variable {K : PySem.W.Frag} {mg : Str → Option Value} {I H I' H' : Hp} {σ σ' ρ : List (Option V)} {Γ Γ' Θ : List Cell} {i j n : Nat} {v v1 v2 v3 : V} {c c1 c2 : Cell} {o : Option V} {te tl ti to : TE} {ta : TA} {tt : TT} {t u : TS} {dn db dc : L2.St → Hp → Prop} {dr : VK} {Q : VK} {W : WX}
variable {ω : Type} {P : ω → Prop} {X : Exn → Prop} {α β γ δ : Type}
abbrev rJoin (K : PySem.W.Frag) : V → List V → Hp → VK → Prop := fun x xs H Q => ∃ a p, ∃ ys : List Str, x = .str a ∧ xs = [.ref p] ∧ (SqL K H p (ys.map V.str) ∨ SqT K H p (ys.map V.str)) ∧
      (ys.map (·.length)).sum + ys.length * a.length ≤ 16777216 ∧ Q (.str (Txt.join a ys)) H
def JnG (K : PySem.W.Frag) : V → List V → Hp → VK → Prop := rJoin K
theorem uJoin (h : to σ H fun x H1 => (∃ a, x = V.str a) ∧ te σ H1 fun y H2 => JnG K x [y] H2 Q) : tM1 (rJoin K) to te σ H Q := h
theorem paired_txt {I : Hp} : ∀ {vs : List V} {xs : List Tx}, Paired (fun v x => Rep.rp K I v x) vs xs → vs = (xs.map mkS).map V.str
  | _, _, .nil => rfl
  | _, _, .cons r t => by
    rw [List.map_cons, List.map_cons, paired_txt t]
    congr 1
    exact r.1
theorem st_joinA {sep : Tx} (E : Env K I H σ Γ (some v :: ρ) (.im sep :: Θ)) : ∃ a, v = V.str a := ⟨_, E.topS.1⟩
theorem st_join {sep : Tx} {xs : List Tx} {k : Tx → Res ω} (E : Env K I H σ Γ (some v2 :: some v1 :: ρ) (.im xs :: .im sep :: Θ)) (h : wp ((lJoin sep xs).bind k) P X)
    (next : ∀ t v, Env K I H σ Γ (some v :: ρ) (.im t :: Θ) → wp (k t) P X → Q v H) : JnG K v1 [v2] H Q := by
  unfold lJoin at h
  rw [clo_eq] at h
  obtain ⟨a, vs, rfl, hq, pr⟩ := E.topR
  have e1 := E.pop.topS
  have ll : ∀ xs : List Tx, ((xs.map mkS).map (·.length)).sum = (xs.map (·.length)).sum := by
    intro xs
    induction xs with
    | nil => rfl
    | cons x xs ih => simp only [List.map_cons, List.sum_cons, ih]; congr 1
  by_cases hb : (xs.map (·.length)).sum + xs.length * sep.length ≤ 16777216
  · rw [if_pos hb] at h
    refine ⟨_, a, xs.map mkS, e1.1, rfl, .inl (SqL.of (by rw [← paired_txt pr]; exact E.same _ _ hq)), ?_, ?_⟩
    · rw [ll, List.length_map]
      exact hb
    · rw [join_mk]
      exact next _ _ (E.pop.pop.pushS (a := joinT sep xs) (Nat.le_trans (joinT_len sep xs) hb)) h
  · rw [if_neg hb] at h
    exact h.elim
/-! ### text.index(t) -/
noncomputable def xIndex (a b : Tx) : Res Int := clo (match Builtin.Str.occurrences (mkS a) (mkS b) 0 (mkS a).length 1 with
  | i :: _ => .ok (i : Int)
  | [] => .bad)
def rIndexT : V → List V → Hp → VK → Prop := fun x xs H Q => ∃ a b i rest, x = .str a ∧ xs = [.str b] ∧ Builtin.Str.occurrences a b 0 a.length 1 = i :: rest ∧ Q (.int (i : Nat)) H
theorem hf_index {tb tc : TE} {m1 m2 : Res Tx} (h1 : HF K tb Γ m1) (h2 : HF K tc Γ m2) : HF K (tM1 rIndexT tb tc) Γ (m1.bind fun a => m2.bind fun b => xIndex a b) := .mk fun X Q E q =>
  h1.run X _ E (wpb q fun a q oa => ⟨⟨_, rfl⟩, h2.run X _ E (wpb q fun b q ob => by
    unfold xIndex at q
    rw [clo_eq] at q
    cases e : Builtin.Str.occurrences (mkS a) (mkS b) 0 (mkS a).length 1 with
    | nil => rw [e] at q; exact q.elim
    | cons i rest =>
      rw [e] at q
      exact ⟨_, _, i, rest, rfl, rfl, e, q trivial⟩)⟩)
end
end M
namespace M
open PySem PySem.Spec PyProof.Rows L2
/-! ### loops over owned lists that the body leaves alone -/
section
variable {K : PySem.W.Frag} {mg : Str → Option Value} {I H I' H' : Hp} {σ σ' ρ : List (Option V)} {Γ Γ' Θ : List Cell} {i j n : Nat} {v v1 v2 v3 : V} {c c1 c2 : Cell} {o : Option V} {te tl ti to : TE} {ta : TA} {tt : TT} {t u : TS} {dn db dc : L2.St → Hp → Prop} {dr : VK} {Q : VK} {W : WX}
variable {ω : Type} {P : ω → Prop} {X : Exn → Prop} {α β γ δ : Type}
/-- the walk J yields xs, as long as C is true of the names -/
structure FeedsC (K : PySem.W.Frag) (J : It) {α : Type} [Rep α] (xs : List α) (C : List Cell → Prop) : Prop where
  go : ∀ {I H : Hp} {σ ρ : List (Option V)} {Γ Θ : List Cell} (i : Nat), Env K I H σ Γ ρ Θ → C Γ → i < xs.length → J.go i H
  yld : ∀ {I H : Hp} {σ ρ : List (Option V)} {Γ Θ : List Cell} (i : Nat) (x : V) (H' : Hp) (a : α), Env K I H σ Γ ρ Θ → C Γ → xs[i]? = some a → J.yld i H x H' → ∃ I', Grow I H I' H' ∧ Rep.rp K I' x a
  stop : ∀ {I H : Hp} {σ ρ : List (Option V)} {Γ Θ : List Cell} (i : Nat), Env K I H σ Γ ρ Θ → C Γ → xs.length ≤ i → J.stop i H
theorem Env.pinL {α : Type} [Rep α] {xs : List α} {pn pn' : Option V} (E : Env K I H σ Γ ρ Θ) (h : Γ[j]? = some (.own xs pn)) (hp : ∀ v w, σ[j]? = some (some v) → pn' = some w → v = w) : Env K I H σ (Γ.set j (.own xs pn')) ρ Θ := by
  obtain ⟨o, r, ho, e, back⟩ := E.pick h
  obtain ⟨p, vs, e1, _⟩ := id e.ownL
  subst e1
  have z := back (some (V.ref p)) (.own xs pn') (e.repin fun w hw => hp _ w ho hw)
  have ss : σ.set j (some (V.ref p)) = σ := set_same ho
  rw [ss] at z
  exact z
theorem Env.unpinL {α : Type} [Rep α] {xs : List α} {pn : Option V} (E : Env K I H σ Γ ρ Θ) (h : Γ[j]? = some (.own xs pn)) : Env K I H σ (Γ.set j (.own xs none)) ρ Θ := E.pinL h fun _ _ _ e => nomatch e
theorem Env.pinAt {α : Type} [Rep α] {xs : List α} {w : V} (E : Env K I H σ Γ ρ Θ) (h : Γ[j]? = some (.own xs (some w))) : σ[j]? = some (some w) := by
  obtain ⟨o, r, ho, e, back⟩ := E.pick h
  obtain ⟨p, vs, e1, _⟩ := id e.ownL
  subst e1
  rw [ho, e.pin w rfl]
theorem it_own {α : Type} [Rep α] {R : It → Hp → Prop} {xs : List α} {pn : Option V} (E : Env K I H σ Γ ρ Θ) (hΓ : Γ[j]? = some (.own xs pn))
    (next : ∀ a, Env K I H σ (Γ.set j (.own xs (some (.ref a)))) ρ Θ → FeedsC K (Itl K a) xs (fun Γ => Γ[j]? = some (.own xs (some (.ref a)))) → R (Itl K a) H) : iList K (tVar j) σ H R := by
  obtain ⟨p, vs, hs, hp, _, r, _⟩ := E.ownAt hΓ
  have at_ : ∀ {I H : Hp} {σ ρ : List (Option V)} {Γ Θ : List Cell}, Env K I H σ Γ ρ Θ → Γ[j]? = some (.own xs (some (.ref p))) → ∃ vs, H p = some (.lst vs) ∧ Paired (fun v x => Rep.rp K I v x) vs xs := by
    intro I H σ ρ Γ Θ E h
    obtain ⟨q, vs, hs, hq, _, r, _⟩ := E.ownAt h
    have e := E.pinAt h
    rw [hs] at e
    cases e
    exact ⟨vs, hq, r⟩
  refine ⟨_, hs, p, rfl, ⟨vs, SqL.of hp⟩, next p (E.pinL hΓ fun v w h1 h2 => ?_) ⟨fun {I H} {_ _} {_ _} i E' h hi => ?_, fun {I H} {_ _} {_ _} i x H' b E' h hx hy => ?_, fun {I H} {_ _} {_ _} i E' h hi => ?_⟩⟩
  · rw [hs] at h1
    cases h1
    cases h2
    rfl
  · obtain ⟨vs, hq, r⟩ := at_ E' h
    have hl : vs.length = xs.length := Paired.length r
    exact ⟨vs, vs[i]'(by omega), SqL.of hq, List.getElem?_eq_getElem (by omega)⟩
  · obtain ⟨vs, hq, r⟩ := at_ E' h
    obtain ⟨rfl, hy⟩ := hy
    exact ⟨I, Grow.refl E'.same, paired_at r (hy _ (SqL.of hq)) hx⟩
  · obtain ⟨vs, hq, r⟩ := at_ E' h
    have hl : vs.length = xs.length := Paired.length r
    exact ⟨vs, SqL.of hq, by omega⟩
theorem st_forC {α ρτ S : Type} [Rep α] {xs : List α} {J : It} {C : List Cell → Prop} {g : TG} {tb : TS} {f : α → S → Res (Fl ρτ S)} {k : Lp ρτ S → Res ω} {s0 : S} (hJ : FeedsC K J xs C) (R : ρτ → Prop) (G : S → List Cell) (hC : ∀ s, C (G s))
    (E : Env K I H σ Γ ρ Θ) (w : Wk Γ (G s0)) (h : wp ((forR f xs s0).bind k) P X) (ret : ∀ r, wp (k (.ret r)) P X → R r)
    (turn : ∀ x s I' H' σ' y (N B : L2.St → Hp → Prop), Env K I' H' σ' (G s) (some y :: ρ) (.im x :: Θ) → wp (f x s) (TurnP K G ρ Θ N B R) X → g y σ' H' fun σ2 H2 => tb ⟨N, dr, B, N⟩ σ2 H2)
    (rest : ∀ s I' H' σ', Env K I' H' σ' (G s) ρ Θ → wp (k (.fin s)) P X → dn σ' H') :
    ∃ W : Nat → Nat → L2.St → Hp → Prop, (∃ m, W 0 m σ H) ∧ ∀ i m σ H, W i m σ H →
      (J.stop i H ∧ dn σ H) ∨ (J.go i H ∧ ∃ N : L2.St → Hp → Prop, (∀ σ' H', N σ' H' → ∃ m', m' < m ∧ W (i + 1) m' σ' H') ∧ ∀ x H', J.yld i H x H' → g x σ H' fun σ2 H2 => tb ⟨N, dr, dn, N⟩ σ2 H2) := by
  refine ⟨fun i m σ' H' => m = xs.length - i ∧ i ≤ xs.length ∧ ∃ s I', Env K I' H' σ' (G s) ρ Θ ∧ wp ((forR f (xs.drop i) s).bind k) P X, ⟨xs.length, by simp, Nat.zero_le _, s0, I, E.weak w, h⟩, ?_⟩
  rintro i m σ' H' ⟨rfl, hi, s, I', E', h'⟩
  by_cases hlt : i < xs.length
  · have hx : xs[i]? = some xs[i] := List.getElem?_eq_getElem hlt
    rw [forR_at hx, Res.bind_assoc] at h'
    refine .inr ⟨hJ.go i E' (hC s) hlt, fun σ2 H2 => ∃ s I', Env K I' H2 σ2 (G s) ρ Θ ∧ wp ((forR f (xs.drop (i + 1)) s).bind k) P X, fun σ2 H2 z => ⟨xs.length - (i + 1), by omega, rfl, hlt, z⟩, fun y H2 hyl => ?_⟩
    obtain ⟨I2, g2, ry⟩ := hJ.yld i y H2 _ E' (hC s) hx hyl
    refine turn _ s I2 H2 σ' y _ _ ((E'.grow g2).push ry) (wpb h' fun z q => ?_)
    cases z with
    | nx s' => exact fun I2 H2 σ2 E2 => ⟨s', I2, E2, q⟩
    | bk s' => exact fun I2 H2 σ2 E2 => rest s' I2 H2 σ2 E2 q
    | rt r => exact ret r q
  · have e : i = xs.length := by omega
    subst e
    rw [List.drop_eq_nil_of_le (Nat.le_refl _)] at h'
    exact .inl ⟨hJ.stop _ E' (hC s) (Nat.le_refl _), rest s I' H' σ' E' h'⟩
theorem st_forSC {α S : Type} [Rep α] {xs : List α} {J : It} {C : List Cell → Prop} {g : TG} {tb : TS} {f : α → S → Res S} {k : S → Res ω} {s0 : S} (hJ : FeedsC K J xs C) (G : S → List Cell) (hC : ∀ s, C (G s))
    (E : Env K I H σ Γ ρ Θ) (w : Wk Γ (G s0)) (h : wp ((forS f xs s0).bind k) P X)
    (turn : ∀ x s I' H' σ' y (N B : L2.St → Hp → Prop), Env K I' H' σ' (G s) (some y :: ρ) (.im x :: Θ) → wp (f x s) (fun s => ∀ I' H' σ', Env K I' H' σ' (G s) ρ Θ → N σ' H') X → g y σ' H' fun σ2 H2 => tb ⟨N, dr, B, N⟩ σ2 H2)
    (rest : ∀ s I' H' σ', Env K I' H' σ' (G s) ρ Θ → wp (k s) P X → dn σ' H') :
    ∃ W : Nat → Nat → L2.St → Hp → Prop, (∃ m, W 0 m σ H) ∧ ∀ i m σ H, W i m σ H →
      (J.stop i H ∧ dn σ H) ∨ (J.go i H ∧ ∃ N : L2.St → Hp → Prop, (∀ σ' H', N σ' H' → ∃ m', m' < m ∧ W (i + 1) m' σ' H') ∧ ∀ x H', J.yld i H x H' → g x σ H' fun σ2 H2 => tb ⟨N, dr, dn, N⟩ σ2 H2) := by
  refine ⟨fun i m σ' H' => m = xs.length - i ∧ i ≤ xs.length ∧ ∃ s I', Env K I' H' σ' (G s) ρ Θ ∧ wp ((forS f (xs.drop i) s).bind k) P X, ⟨xs.length, by simp, Nat.zero_le _, s0, I, E.weak w, h⟩, ?_⟩
  rintro i m σ' H' ⟨rfl, hi, s, I', E', h'⟩
  by_cases hlt : i < xs.length
  · have hx : xs[i]? = some xs[i] := List.getElem?_eq_getElem hlt
    rw [forS_at hx, Res.bind_assoc] at h'
    refine .inr ⟨hJ.go i E' (hC s) hlt, fun σ2 H2 => ∃ s I', Env K I' H2 σ2 (G s) ρ Θ ∧ wp ((forS f (xs.drop (i + 1)) s).bind k) P X, fun σ2 H2 z => ⟨xs.length - (i + 1), by omega, rfl, hlt, z⟩, fun y H2 hyl => ?_⟩
    obtain ⟨I2, g2, ry⟩ := hJ.yld i y H2 _ E' (hC s) hx hyl
    exact turn _ s I2 H2 σ' y _ _ ((E'.grow g2).push ry) (wpb h' fun s' q I3 H3 σ3 E3 => ⟨s', I3, E3, q⟩)
  · have e : i = xs.length := by omega
    subst e
    rw [List.drop_eq_nil_of_le (Nat.le_refl _)] at h'
    exact .inl ⟨hJ.stop _ E' (hC s) (Nat.le_refl _), rest s I' H' σ' E' h'⟩
end
end M
namespace M
open PySem PySem.Spec PyProof.Rows L2
/-! ### texts in lists; the least of some texts -/
theorem lt_str (a b : Tx) : W.dataLt (.str (mkS a)) (.str (mkS b)) = decide (a < b) := by
  show PyProof.Rows.lexLt itemOrd [Sum.inr (mkS a).cps.toList] [Sum.inr (mkS b).cps.toList] = _
  rw [mkS_list, mkS_list]
  by_cases e : a = b
  · subst e
    rw [show PyProof.Rows.lexLt itemOrd [Sum.inr a] [Sum.inr a] = false from (lex_self (O := itemOrd) (Sum.inr a) [] []).trans rfl, decide_eq_false (List.lt_irrefl _)]
  · have ne : (Sum.inr a : Int ⊕ List Nat) ≠ Sum.inr b := fun q => e (Sum.inr.inj q)
    rw [lex_diff (O := itemOrd) ne]
    rfl
def minT : Tx → List Tx → Tx := fun x xs => xs.foldl (fun a y => if xLt y a = true then y else a) x
theorem minD_txt : ∀ (xs : List Tx) (x : Tx), W.minD (PyData.str (mkS x)) (xs.map fun t => PyData.str (mkS t)) = .str (mkS (minT x xs)) := by
  intro xs
  induction xs with
  | nil => intro x; rfl
  | cons y ys ih =>
    intro x
    rw [List.map_cons]
    unfold W.minD minT
    rw [List.foldl_cons, List.foldl_cons]
    have ih : ∀ x : Tx, List.foldl (fun a y => if W.dataLt y a = true then y else a) (PyData.str (mkS x)) (ys.map fun t => PyData.str (mkS t)) = PyData.str (mkS (List.foldl (fun a y => if xLt y a = true then y else a) x ys)) := ih
    rw [lt_str]
    unfold xLt
    by_cases h : y < x
    · rw [decide_eq_true h, if_pos rfl, if_pos rfl]
      exact ih y
    · rw [decide_eq_false h, if_neg (by decide), if_neg (by decide)]
      exact ih x
theorem minT_mem : ∀ (xs : List Tx) (x : Tx), minT x xs ∈ x :: xs := by
  intro xs
  induction xs with
  | nil => intro x; exact List.mem_cons_self
  | cons y ys ih =>
    intro x
    have := ih (if xLt y x = true then y else x)
    show List.foldl _ _ _ ∈ _
    unfold minT at this
    rcases List.mem_cons.mp this with e | e
    · rw [List.foldl_cons, e]
      split <;> simp
    · exact List.mem_cons_of_mem _ (List.mem_cons_of_mem _ e)
theorem minT_le : ∀ (xs : List Tx) (x : Tx), ∀ y ∈ x :: xs, ¬ y < minT x xs := by
  intro xs
  induction xs with
  | nil =>
    intro x y hy
    have : y = x := by simpa using hy
    rw [this]
    exact List.lt_irrefl _
  | cons z zs ih =>
    intro x y hy
    have h := ih (if xLt z x = true then z else x)
    show ¬ y < List.foldl _ _ _
    rw [List.foldl_cons]
    unfold minT at h
    have h0 := h _ List.mem_cons_self
    unfold xLt at h h0 ⊢
    rcases List.mem_cons.mp hy with rfl | hy
    · by_cases c : z < y
      · rw [decide_eq_true c, if_pos rfl] at h0 ⊢
        exact fun q => h0 (List.lt_trans c q)
      · rw [decide_eq_false c, if_neg (by decide)] at h0 ⊢
        exact h0
    · rcases List.mem_cons.mp hy with rfl | hy
      · by_cases c : y < x
        · rw [decide_eq_true c, if_pos rfl] at h0 ⊢
          exact h0
        · rw [decide_eq_false c, if_neg (by decide)] at h0 ⊢
          intro q
          exact h0 (List.lt_of_le_of_lt (List.not_lt.mp c) q)
      · exact h y (List.mem_cons_of_mem _ hy)
def lMinT (xs : List Tx) : Res Tx := match xs with
  | [] => .bad
  | x :: xs => .ok (minT x xs)
def rMinT (K : PySem.W.Frag) : List V → Hp → VK → Prop := fun vs H Q => ∃ (a : Addr) (x : Tx) (xs : List Tx), vs = [V.ref a] ∧ SqL K H a (((x :: xs).map mkS).map V.str) ∧ Q (.str (mkS (minT x xs))) H
theorem dpTxt {K : PySem.W.Frag} {H : Hp} : ∀ xs : List Tx, DpAll K H ((xs.map mkS).map V.str) (xs.map fun t => PyData.str (mkS t))
  | [] => .nil
  | x :: xs => .cons (.str _) (dpTxt xs)
theorem cr_minT {X : Cx} (hc : X.calm = true) (hu : X.A.units + 64 < cLine) : CallR X (.builtin "min") (rMinT X.K) := by
  intro pins s σ H vs us Q I r h
  obtain ⟨a, x, xs, rfl, hs, q⟩ := h
  obtain ⟨its, rv, hl, _⟩ := I.list hs
  rw [Vals.ref1 r]
  obtain ⟨as, ra⟩ := Dp.readsAll I _ _ _ (dpTxt (x :: xs)) rv
  have dz : PyData.depthAll ((x :: xs).map fun t => PyData.str (mkS t)) = 0 := by
    generalize x :: xs = l
    induction l with
    | nil => rfl
    | cons y ys ih =>
      show max 0 (PyData.depthAll _) = 0
      rw [ih]
      rfl
  refine W.min_list_data (x := .str (mkS x)) (xs := xs.map fun t => .str (mkS t)) (I.ok.hd hc) hl.isList (by simpa using ra) ⟨fun u hu v hv => ?_, fun u hu => ?_⟩ (by rw [show PyData.str (mkS x) :: xs.map (fun t => PyData.str (mkS t)) = (x :: xs).map fun t => PyData.str (mkS t) from rfl, dz]; omega) fun i v h' tk bs hv rd hk => ?_
  · rw [show PyData.str (mkS x) :: xs.map (fun t => PyData.str (mkS t)) = (x :: xs).map fun t => PyData.str (mkS t) from rfl] at hu hv
    obtain ⟨t, _, rfl⟩ := List.mem_map.mp hu
    obtain ⟨t2, _, rfl⟩ := List.mem_map.mp hv
    rfl
  · rw [show PyData.str (mkS x) :: xs.map (fun t => PyData.str (mkS t)) = (x :: xs).map fun t => PyData.str (mkS t) from rfl] at hu
    obtain ⟨t, _, rfl⟩ := List.mem_map.mp hu
    exact fun e => nomatch e
  · rw [minD_txt] at rd
    cases rd
    exact ⟨.str _, H, I.kept hk, ⟨_, rfl⟩, q⟩
section
variable {K : PySem.W.Frag} {mg : Str → Option Value} {I H I' H' : Hp} {σ σ' ρ : List (Option V)} {Γ Γ' Θ : List Cell} {i j n : Nat} {v v1 v2 v3 : V} {c c1 c2 : Cell} {o : Option V} {te tl ti to : TE} {ta : TA} {tt : TT} {t u : TS} {dn db dc : L2.St → Hp → Prop} {dr : VK} {Q : VK} {W : WX}
variable {ω : Type} {P : ω → Prop} {X : Exn → Prop} {α β γ δ : Type} {pn : Option V}
theorem st_minT {xs : List Tx} {k : Tx → Res ω} (E : Env K I H σ Γ (some v :: ρ) (.im xs :: Θ)) (h : wp ((lMinT xs).bind k) P X) (next : ∀ t v, Env K I H σ Γ (some v :: ρ) (.im t :: Θ) → wp (k t) P X → Q v H) : CbG (rMinT K) [v] H Q := by
  obtain ⟨a, vs, rfl, hq, pr⟩ := E.topR
  cases xs with
  | nil => exact h.elim
  | cons x xs =>
    have ok : (minT x xs).length ≤ line := by
      have all : ∀ {vs : List V} {ys : List Tx}, Paired (fun v x => Rep.rp K I v x) vs ys → ∀ t ∈ ys, t.length ≤ line := by
        intro vs ys p
        induction p with
        | nil => intro t ht; simp at ht
        | cons r t ih =>
          intro z hz
          rcases List.mem_cons.mp hz with e | e
          · rw [e]; exact r.2
          · exact ih z e
      exact all pr _ (minT_mem xs x)
    refine ⟨a, x, xs, rfl, SqL.of (by rw [← paired_txt pr]; exact E.same _ _ hq), next _ _ (E.pop.pushS (a := minT x xs) ok) h⟩
/-! ### texts in lists -/
theorem inV_txts (x : Tx) : ∀ xs : List Tx, inV (.str (mkS x)) ((xs.map mkS).map V.str) = decide (x ∈ xs)
  | [] => by simp [inV]
  | y :: ys => by
    show (L2.eqV (.str (mkS y)) (.str (mkS x)) || inV (.str (mkS x)) ((ys.map mkS).map V.str)) = _
    rw [inV_txts x ys]
    have e : L2.eqV (.str (mkS y)) (.str (mkS x)) = decide (y = x) := mkS_beq y x
    rw [e]
    by_cases q : y = x
    · subst q; simp
    · have : ¬ x = y := fun z => q z.symm
      simp [q, this]
theorem flat_txts (ns : List Tx) : ((ns.map mkS).map V.str).all flatV = true := by
  rw [List.all_eq_true]
  intro x hx
  obtain ⟨n, _, rfl⟩ := List.mem_map.mp hx
  rfl
theorem hf_inT_of {xs : List Tx} {neg : Bool} {m : Res Tx} (hv : ∀ {I H : Hp} {σ ρ : List (Option V)} {Θ : List Cell}, Env K I H σ Γ ρ Θ → ∃ a vs, σ[j]? = some (some (.ref a)) ∧ H a = some (.lst vs) ∧ Paired (fun v x => Rep.rp K I v x) vs xs) (ht : HF K te Γ m) :
    HF K (tOp (rIn K neg) te (tVar j)) Γ (m.bind fun x => .ok (if neg = true then !decide (x ∈ xs) else decide (x ∈ xs))) := .mk fun X Q E q => ht.run X _ E (wpb q fun x q _ => by
  obtain ⟨a, vs, hs, ha, p⟩ := hv E
  have e := paired_txt p
  subst e
  refine ⟨_, hs, a, _, rfl, .inl (SqL.of ha), rfl, flat_txts _, ?_⟩
  show Q (.bl (if neg = true then !inV (.str (mkS x)) ((xs.map mkS).map V.str) else inV (.str (mkS x)) ((xs.map mkS).map V.str))) _
  rw [inV_txts]
  exact q trivial)
theorem hf_inTL {xs : List Tx} {m : Res Tx} (hΓ : Γ[j]? = some (.im xs)) (ht : HF K te Γ m) : HF K (tOp (rIn K false) te (tVar j)) Γ (m.bind fun x => .ok (decide (x ∈ xs))) := hf_inT_of (neg := false) (fun E => E.listAt hΓ) ht
theorem hf_inTO {xs : List Tx} {m : Res Tx} (hΓ : Γ[j]? = some (.own xs pn)) (ht : HF K te Γ m) : HF K (tOp (rIn K false) te (tVar j)) Γ (m.bind fun x => .ok (decide (x ∈ xs))) := hf_inT_of (neg := false) (fun E => E.ownAt' hΓ) ht
theorem hf_niTL {xs : List Tx} {m : Res Tx} (hΓ : Γ[j]? = some (.im xs)) (ht : HF K te Γ m) : HF K (tOp (rIn K true) te (tVar j)) Γ (m.bind fun x => .ok (!decide (x ∈ xs))) := hf_inT_of (neg := true) (fun E => E.listAt hΓ) ht
theorem hf_niTO {xs : List Tx} {m : Res Tx} (hΓ : Γ[j]? = some (.own xs pn)) (ht : HF K te Γ m) : HF K (tOp (rIn K true) te (tVar j)) Γ (m.bind fun x => .ok (!decide (x ∈ xs))) := hf_inT_of (neg := true) (fun E => E.ownAt' hΓ) ht
theorem hf_in_ofN {xs : List Int} {m : Res Int} (hv : ∀ {I H : Hp} {σ ρ : List (Option V)} {Θ : List Cell}, Env K I H σ Γ ρ Θ → ∃ a vs, σ[j]? = some (some (.ref a)) ∧ H a = some (.lst vs) ∧ Paired (fun v x => Rep.rp K I v x) vs xs) (ht : HF K te Γ m) :
    HF K (tOp (rIn K true) te (tVar j)) Γ (m.bind fun x => .ok (!decide (x ∈ xs))) := .mk fun X Q E q => ht.run X _ E (wpb q fun x q _ => by
  obtain ⟨a, vs, hs, ha, p⟩ := hv E
  have e := ints_rp p
  subst e
  refine ⟨_, hs, a, _, rfl, .inl (SqL.of ha), rfl, flat_ints _, ?_⟩
  show Q (.bl (!inV (.int x) (xs.map V.int))) _
  rw [inV_ints]
  exact q trivial)
theorem hf_niL {xs : List Int} {m : Res Int} (hΓ : Γ[j]? = some (.im xs)) (ht : HF K te Γ m) : HF K (tOp (rIn K true) te (tVar j)) Γ (m.bind fun x => .ok (!decide (x ∈ xs))) := hf_in_ofN (fun E => E.listAt hΓ) ht
theorem hf_niO {xs : List Int} {m : Res Int} (hΓ : Γ[j]? = some (.own xs pn)) (ht : HF K te Γ m) : HF K (tOp (rIn K true) te (tVar j)) Γ (m.bind fun x => .ok (!decide (x ∈ xs))) := hf_in_ofN (fun E => E.ownAt' hΓ) ht
end
end M
namespace M
open PySem PySem.Spec PyProof.Rows L2
/-! ### repr of a whole number, of a text -/
theorem mkS_back (s : Str) : mkS s.cps.toList = s := by
  unfold mkS
  cases s
  simp
noncomputable def xReprI (i : Int) : Res Tx := clo (if i.natAbs.log2 < 1920 then .ok (Str.ofString (toString i)).cps.toList else .bad)
noncomputable def xReprT (w : Tx) : Res Tx := clo (if (reprText (mkS w)).length ≤ sizeLine then .ok (reprText (mkS w)).cps.toList else .bad)
def rReprI : List V → Hp → VK → Prop := fun xs H Q => ∃ i, xs = [V.int i] ∧ i.natAbs.log2 < 1920 ∧ Q (.str (toString i)) H
def rReprT : List V → Hp → VK → Prop := fun xs H Q => ∃ a : Str, xs = [V.str a] ∧ (reprText a).length ≤ sizeLine ∧ Q (.str (reprText a)) H
theorem call_reprT {X : Cx} : CallR X (.builtin "repr") rReprT := by
  intro pins s σ H xs us Q I r h
  obtain ⟨a, rfl, hz, q⟩ := h
  obtain ⟨u, rfl, t, rfl⟩ := vals1 r
  exact PySem.P.repr_of_str ⟨.str _, H, I.tok _, ⟨_, rfl⟩, q⟩ hz
theorem hc_reprI {x : Int} : HC1 rReprI x (xReprI x) := .mk fun X Q ox q => by
  unfold xReprI at q
  rw [clo_eq] at q
  by_cases h : x.natAbs.log2 < 1920
  · rw [if_pos h] at q
    refine ⟨x, rfl, h, ?_⟩
    have e := mkS_back (Str.ofString (toString x))
    have q2 := q (by
      show (Str.ofString (toString x)).cps.toList.length ≤ line
      rw [line_eq, Array.length_toList]
      exact int_text_fits h)
    have q3 : Q (V.str (mkS (Str.ofString (toString x)).cps.toList)) _ := q2
    rw [e] at q3
    exact q3
  · rw [if_neg h] at q
    exact q.elim
theorem hc_reprT {x : Tx} : HC1 rReprT x (xReprT x) := .mk fun X Q ox q => by
  unfold xReprT at q
  rw [clo_eq] at q
  by_cases h : (reprText (mkS x)).length ≤ sizeLine
  · rw [if_pos h] at q
    refine ⟨mkS x, rfl, h, ?_⟩
    have e := mkS_back (reprText (mkS x))
    have q2 := q (by
      show (reprText (mkS x)).cps.toList.length ≤ line
      rw [line_eq, Array.length_toList]
      exact h)
    have q3 : Q (V.str (mkS (reprText (mkS x)).cps.toList)) _ := q2
    rw [e] at q3
    exact q3
  · rw [if_neg h] at q
    exact q.elim
section
variable {K : PySem.W.Frag} {I H : Hp} {σ ρ : List (Option V)} {Γ Θ : List Cell} {ta tb : TE} {Q : VK} {ω : Type} {P : ω → Prop} {X : Exn → Prop}
/-- if-else whose ways change owned things -/
theorem st_itexS {S α : Type} {b : Bool} {mA mB : Res (S × α)} {k : S × α → Res ω} (G : S → List Cell) (oc : α → Cell) (E : Env K I H σ Γ ρ Θ) (h : wp ((if b = true then mA else mB).bind k) P X)
    (h1 : wp mA (fun y => ∀ I' H' v, Env K I' H' σ (G y.1) (some v :: ρ) (oc y.2 :: Θ) → Q v H') X → ta σ H Q) (h2 : wp mB (fun y => ∀ I' H' v, Env K I' H' σ (G y.1) (some v :: ρ) (oc y.2 :: Θ) → Q v H') X → tb σ H Q)
    (next : ∀ s a I' H' v, Env K I' H' σ (G s) (some v :: ρ) (oc a :: Θ) → wp (k (s, a)) P X → Q v H') : if b = true then ta σ H Q else tb σ H Q := by
  cases b with
  | true => exact h1 (wpb h fun a h I' H' v E => next a.1 a.2 I' H' v E h)
  | false => exact h2 (wpb h fun a h I' H' v E => next a.1 a.2 I' H' v E h)
end
/-- a method's derivation where the surroundings are not known early (suites, comprehensions) -/
theorem pe_bmK {X : Cx} {K : PySem.W.Frag} {e : Expr} {T : String} {r : V → List V → Hp → VK → Prop} {to : TE} {t : TA} (h : PE X e (tBM X.K T r to t)) (hK : X.K = K) : PE X e (tBM K T r to t) := hK ▸ h
end M
/-! sets of whole numbers made of lists and tuples, sorted at once; field-less exceptions -/
namespace M
open PySem PySem.Spec PyProof.Rows L2
/-- a set just made -/
abbrev nset (w : World) : Obj := { cls := .type "set", dict := none, data := .set #[] 0 (.fresh 0 0 (!w.params.followText "set-order")) }
section
variable {P : Program} {w : World} {A : Around} {E : Value → Shared → Prop} {s : Shared}
set_option maxHeartbeats 6000000 in
theorem set_listI {la : Addr} {us : Array Value} (ks : List Int) {Q : Value → Shared → Prop} (hA : A.handled = none) (hL : s.heap.IsList la us) (hI : IntsAre us.toList ks) (hB : ks.length + 1 < scanBound)
    (k : ∀ (h2 : Heap) (tk c : Nat), SetR w h2 s.heap.objs.size (fun j => decide (j ∈ ks)) c → c ≤ ks.length → (∀ b o, s.heap.get? b = some o → h2.get? b = some o) → Q (.ref s.heap.objs.size) { s with heap := h2, toks := tk }) :
    wpAny (model P w) A (call (.type "set") [.ref la]) Q E s := by
  have zk : us.size = ks.length := by
    have z := IntsAre.length hI
    rw [Array.length_toList] at z
    exact z
  obtain ⟨c0, tl0, mro0⟩ := F.called_set.mro
  have made0 := F.called_set.made
  have sub0 := F.called_set.sub
  refine wpAny_call (codeAny_of_tree ?_)
  show wpAny _ _ (callAny (.type "set") _) _ _ _
  refine wpAny_pure ⟨Code.quiet_builtin _ (by decide +kernel), codeAny_builtin F.entry_type_call ?_⟩
  rw [Around.under_plain (weight_type_call_type "set" [.ref la] []) rfl]
  have nt := F.called_set.notType
  have cc := F.called_set.canCreate
  have tc := F.typeCall_set_1 (.ref la)
  repeat (any_goals (first | assumption | wp_step))
  refine codeAny_mono (code_set_led1 (.ref la) (E := E) (Q₁ := fun obj t => obj = .ref s.heap.objs.size ∧ t = { s with heap := s.heap.push (nset w) }) ⟨rfl, rfl⟩) fun rr t0 hrr => ?_
  cases rr with
  | error e => exact hrr
  | ok fl =>
    cases fl with
    | ret obj =>
      obtain ⟨rfl, rfl⟩ := hrr
      have gS : (s.heap.push (nset w)).get? s.heap.objs.size = some (nset w) := Heap.get?_push_size _ rfl
      have tS : Shared.TypeIs { s with heap := s.heap.push (nset w) } (.ref s.heap.objs.size) "set" := ⟨_, gS, rfl⟩
      have li := F.called_set.init.lookup
      have bi := F.called_set.init.bind (.ref s.heap.objs.size)
      repeat (any_goals (first | assumption | wp_step))
      refine codeAny_mono (codeAny_call_builtin (R := wants (fun r t => r = .none ∧ ∃ h2 tk c, t = { s with heap := h2, toks := tk } ∧ SetR w h2 s.heap.objs.size (fun j => decide (j ∈ ks)) c ∧ c ≤ ks.length ∧
          (∀ b o, s.heap.get? b = some o → h2.get? b = some o)) E) F.called_set.init.plain F.entry_set_init (check_set_init_1 tS ?_)) fun r2 t2 hr2 => ?_
      · obtain ⟨ol, gl, cl, nl, dl⟩ := hL
        obtain ⟨oc, od, odt, osl⟩ := ol
        simp only at cl dl
        subst cl; subst dl
        have gl2 : (s.heap.push (nset w)).get? la = some { cls := .type "list", dict := od, data := .seq us nl, slots := osl } := Heap.get?_push_of_some _ gl
        have sls := F.sub_list_set
        have slf := F.sub_list_frozenset
        have nd : (Value.type "list" == Value.type "dict") = false := by decide
        have il : (s.heap.push (nset w)).IsList la us := ⟨_, gl2, rfl, nl, rfl⟩
        unfold Builtin.«set.__init__» noKeywords Builtin.Frozenset.updateFrom
        generalize hit : pyIter = IT
        wp_walk
        subst hit
        refine wpAny_pyIter_list il ?_
        refine wpAny_bind (wpAny_runValue ?_)
        have lS : la < s.heap.objs.size := Heap.lt_size gl
        have h3 : A.in1.in1.in1.handled = none := by simp [hA]
        have zI : (s.heap.push (nset w)).objs.size = s.heap.objs.size + 1 := Heap.size_push ..
        have nI : la ≠ (s.heap.push (nset w)).objs.size := by
          rw [zI]; exact Nat.ne_of_lt (Nat.lt_succ_of_lt lS)
        have nS : s.heap.objs.size ∉ [(s.heap.push (nset w)).objs.size, la] := by
          rw [zI]; simp only [List.mem_cons, List.not_mem_nil, or_false, not_or]
          exact ⟨Nat.ne_of_lt (Nat.lt_succ_self _), Nat.ne_of_gt lS⟩
        have vals : ∀ (i : Nat) (v : Value), us[i]? = some v → ∃ k t, ks[i]? = some k ∧ v = .int k t := fun i v hv => by
          have hi : i < ks.length := by rw [← zk]; exact (Array.getElem?_eq_some_iff.mp hv).1
          obtain ⟨t, e⟩ := PyProof.Rows.IntsAre.int_at hI i v (by rw [Array.getElem?_toList]; exact hv)
          refine ⟨ks[i], t, List.getElem?_eq_getElem hi, ?_⟩
          rw [e, List.getD_eq_getElem?_getD, List.getElem?_eq_getElem hi] <;> rfl
        refine set_update_ints ((Walks.list h3 _ la nI us).toS) s.heap.objs.size nS ks zk hB vals (us.size - 0) 0 _ (by omega) (Nat.zero_le _) ⟨⟨_, Heap.get?_push_size _ rfl, rfl, rfl⟩, (il.push _)⟩ ?_ ?_
        · exact ⟨0, Nat.le_refl 0, setR_new_at (Heap.get?_push_of_some _ gS)⟩
        · intro t3 c3 mv lc sr
          obtain ⟨hq, gq, dq, tq, oq⟩ := t3
          have e1 : gq = s.gens := mv.gens
          have e2 : dq = s.drawn := mv.drawn
          have e3 : oq = s.os := mv.os
          subst e1; subst e2; subst e3
          show wpAny _ _ _ _ _ _
          refine wpAny_pure ?_
          show wpAny _ _ (ret Value.none) _ _ _
          rw [zk] at lc
          refine wpAny_pure ⟨rfl, hq, tq, c3, rfl, sr, lc, fun b o e => ?_⟩
          have b0 : b < s.heap.objs.size := Heap.lt_size e
          refine mv.heap b o ?_ (Heap.get?_push_of_some _ (Heap.get?_push_of_some _ e))
          rw [zI]
          simp only [List.mem_cons, List.not_mem_nil, or_false, not_or]
          exact ⟨Nat.ne_of_lt b0, Nat.ne_of_lt (Nat.lt_succ_of_lt b0)⟩
      · cases r2 with
        | error e => exact hr2
        | ok fl2 =>
          cases fl2 with
          | ret r =>
            obtain ⟨rfl, h2, tk, c, rfl, sr, lc, kk⟩ := hr2
            repeat (any_goals (first | assumption | wp_step))
            exact k _ _ _ sr lc kk
          | _ => exact hr2.elim
    | _ => exact hrr.elim
end
end M
namespace M
open PySem PySem.Spec PyProof.Rows L2
/-! ### an own exception without fields -/
theorem pmk_own0N {X : Cx} {C : Addr} {bmB : List Value} {B newId initId : String} {x : Str} {p pos : Pos} (F : ExcBaseFacts B newId initId bmB) (e : PySem.W.excIn X.K C bmB newId = true) (gC : X.mg x = some (.ref C)) (kC : PySem.W.keepIn X.K (.ref C) = true)
    (r : Raises X (.ref C)) (hg : Gl X x) (hdb : (x == ("__debug__" : Str)) = false := by decide) : L2N.PMk X (.Call (.Name x p) [] [] pos) (fun _ H Q => Q (.ref C) none H) := by
  intro pins s σ H Q I h
  refine wpAny_Call_Name_kw (ld_glob I hg gC (PySem.W.callWith_K0 I.kIn kC ?_) hdb)
  obtain ⟨c1, c2, c3, c4, c5, c6, c7, c8, c9, c10, c11, c12, c13, c14, c15, c16, c17, oC, oN, nI, T⟩ := exc_obj I.kIn e
  show wpAny _ _ (call (.ref C) []) _ _ _
  exact wpAny_call_exc_subT F T oC oN nI (fun h2 a mk => L2N.mk_of I mk r h (I.hok.gone mk.new)) (Nat.zero_le _)
/-- what the top says of such a class -/
structure ExcN0 (K : PySem.W.Frag) (mg : Str → Option Value) (x : Str) (C : Addr) : Prop where
  gC : mg x = some (.ref C)
  q : PySem.W.excIn K C [.type "ValueError", .type "Exception", .type "BaseException", .type "object"] "ValueError.__new__" = true
  kC : PySem.W.keepIn K (.ref C) = true
  exC : PySem.W.subIn K (.ref C) (.type "BaseException") = some true
  tyC : PySem.W.typeIn K (.ref C) = some (.type "type")
  ec : ExcC K C
/-! ### a list or a tuple -/
structure SeqL (α : Type) where
  l : List α
instance repSeqL {α : Type} [Rep α] : Rep (SeqL α) where
  rp K I v x := ∃ a vs, v = .ref a ∧ (I a = some (.lst vs) ∨ SqT K I a vs) ∧ Paired (fun v x => Rep.rp K I v x) vs x.l
  mono := fun e ⟨a, vs, e1, h, p⟩ => ⟨a, vs, e1, h.imp (e _ _) (same_seqT e), Paired.monoR (fun _ _ q => Rep.mono e q) p⟩
def minF (x : Int) (xs : List Int) : Int := xs.foldl (fun a y => if y < a then y else a) x
def maxF (x : Int) (xs : List Int) : Int := xs.foldl (fun a y => if a < y then y else a) x
theorem minF_le : ∀ (xs : List Int) (x : Int), minF x xs ≤ x ∧ (∀ y ∈ xs, minF x xs ≤ y) ∧ (minF x xs = x ∨ minF x xs ∈ xs)
  | [], x => ⟨Int.le_refl _, fun y h => (by cases h), .inl rfl⟩
  | z :: xs, x => by
    have e : minF x (z :: xs) = minF (if z < x then z else x) xs := rfl
    obtain ⟨h1, h2, h3⟩ := minF_le xs (if z < x then z else x)
    rw [e]
    by_cases c : z < x
    · rw [if_pos c] at h1 h2 h3 ⊢
      exact ⟨by omega, fun y hy => (List.mem_cons.mp hy).elim (fun q => by rw [q]; exact h1) (h2 y), .inr (h3.elim (fun q => by rw [q]; exact List.mem_cons_self) (List.mem_cons_of_mem _))⟩
    · rw [if_neg c] at h1 h2 h3 ⊢
      exact ⟨h1, fun y hy => (List.mem_cons.mp hy).elim (fun q => by rw [q]; omega) (h2 y), h3.imp id (List.mem_cons_of_mem _)⟩
theorem maxF_le : ∀ (xs : List Int) (x : Int), x ≤ maxF x xs ∧ (∀ y ∈ xs, y ≤ maxF x xs) ∧ (maxF x xs = x ∨ maxF x xs ∈ xs)
  | [], x => ⟨Int.le_refl _, fun y h => (by cases h), .inl rfl⟩
  | z :: xs, x => by
    have e : maxF x (z :: xs) = maxF (if x < z then z else x) xs := rfl
    obtain ⟨h1, h2, h3⟩ := maxF_le xs (if x < z then z else x)
    rw [e]
    by_cases c : x < z
    · rw [if_pos c] at h1 h2 h3 ⊢
      exact ⟨by omega, fun y hy => (List.mem_cons.mp hy).elim (fun q => by rw [q]; exact h1) (h2 y), .inr (h3.elim (fun q => by rw [q]; exact List.mem_cons_self) (List.mem_cons_of_mem _))⟩
    · rw [if_neg c] at h1 h2 h3 ⊢
      exact ⟨h1, fun y hy => (List.mem_cons.mp hy).elim (fun q => by rw [q]; omega) (h2 y), h3.imp id (List.mem_cons_of_mem _)⟩
def minI : List Int → Res Int
  | [] => .bad
  | x :: xs => .ok (minF x xs)
def maxI : List Int → Res Int
  | [] => .bad
  | x :: xs => .ok (maxF x xs)
def minDf (d : Int) : List Int → Int
  | [] => d
  | x :: xs => minF x xs
/-! ### sorted(set(xs)) -/
def insU (x : Int) : List Int → List Int
  | [] => [x]
  | y :: ys => if x < y then x :: y :: ys else if x = y then y :: ys else y :: insU x ys
def sortU (ns : List Int) : List Int := ns.foldr insU []
theorem mem_insU {x z : Int} : ∀ ys : List Int, z ∈ insU x ys ↔ z = x ∨ z ∈ ys
  | [] => by simp [insU]
  | y :: ys => by
    unfold insU
    split
    · simp
    · split
      · rename_i h
        subst h
        simp
      · rw [List.mem_cons, mem_insU ys, List.mem_cons]
        constructor
        · rintro (h | h | h)
          · exact .inr (.inl h)
          · exact .inl h
          · exact .inr (.inr h)
        · rintro (h | h | h)
          · exact .inr (.inl h)
          · exact .inl h
          · exact .inr (.inr h)
theorem mem_sortU {z : Int} : ∀ ns : List Int, z ∈ sortU ns ↔ z ∈ ns
  | [] => Iff.rfl
  | n :: ns => by
    show z ∈ insU n (sortU ns) ↔ _
    rw [mem_insU, mem_sortU ns, List.mem_cons]
theorem insU_lt {x : Int} : ∀ {ys : List Int}, ys.Pairwise (· < ·) → (insU x ys).Pairwise (· < ·)
  | [], _ => by simp [insU]
  | y :: ys, h => by
    obtain ⟨h1, h2⟩ := List.pairwise_cons.mp h
    unfold insU
    split
    · rename_i c
      exact List.pairwise_cons.mpr ⟨fun z hz => (List.mem_cons.mp hz).elim (fun e => by rw [e]; exact c) fun e => Int.lt_trans c (h1 z e), h⟩
    · split
      · exact h
      · rename_i c d
        exact List.pairwise_cons.mpr ⟨fun z hz => ((mem_insU ys).mp hz).elim (fun e => by rw [e]; omega) (h1 z), insU_lt h2⟩
theorem sortU_lt : ∀ ns : List Int, (sortU ns).Pairwise (· < ·)
  | [] => .nil
  | n :: ns => insU_lt (sortU_lt ns)
theorem lt_uniq : ∀ {a b : List Int}, a.Pairwise (· < ·) → b.Pairwise (· < ·) → (∀ z, z ∈ a ↔ z ∈ b) → a = b
  | [], [], _, _, _ => rfl
  | [], y :: b, _, _, h => absurd ((h y).mpr List.mem_cons_self) (by simp)
  | x :: a, [], _, _, h => absurd ((h x).mp List.mem_cons_self) (by simp)
  | x :: a, y :: b, ha, hb, h => by
    obtain ⟨a1, a2⟩ := List.pairwise_cons.mp ha
    obtain ⟨b1, b2⟩ := List.pairwise_cons.mp hb
    have e : x = y := by
      rcases List.mem_cons.mp ((h x).mp List.mem_cons_self) with e | e
      · exact e
      · rcases List.mem_cons.mp ((h y).mpr List.mem_cons_self) with f | f
        · exact f.symm
        · have := b1 x e
          have := a1 y f
          omega
    subst e
    rw [lt_uniq a2 b2 fun z => ?_]
    constructor
    · intro hz
      rcases List.mem_cons.mp ((h z).mp (List.mem_cons_of_mem _ hz)) with e | e
      · have := a1 z hz
        omega
      · exact e
    · intro hz
      rcases List.mem_cons.mp ((h z).mpr (List.mem_cons_of_mem _ hz)) with e | e
      · have := b1 z hz
        omega
      · exact e
def SsG (K : PySem.W.Frag) (v : V) (H1 : Hp) (Q : VK) : Prop := ∃ (a : Addr) (ns : List Int), v = .ref a ∧ (SqL K H1 a (ns.map V.int) ∨ SqT K H1 a (ns.map V.int)) ∧ ns.length < 64 ∧ ∀ p, H1 p = none → Q (.ref p) (upd H1 p (.lst ((sortU ns).map V.int)))
def tSortSet (K : PySem.W.Frag) (te : TE) : TE := fun σ H Q => te σ H fun v H1 => SsG K v H1 Q
def tSeqI (K : PySem.W.Frag) (te : TE) : TI := fun σ H R => te σ H fun v H1 => ∃ a, v = .ref a ∧ (((∃ xs, SqL K H1 a xs) ∧ R (Itl K a) H1) ∨ ((∃ xs, SqT K H1 a xs) ∧ R (Itt K a) H1))
theorem small_scan {n : Nat} (h : n < 64) : n + 1 < scanBound := by unfold scanBound; omega
section
variable {X : Cx}
theorem sorted_end {pins : List (Addr × Obj)} {σ : L2.St} {H : Hp} {s : Shared} {Q : VK} {ns : List Int} {c : Nat} {b : Addr} (hc : X.calm = true) (I : Inv X pins σ H s) (S : SetR X.w s.heap b (fun j => decide (j ∈ ns)) c) (h64 : c < 64)
    (q : ∀ p, H p = none → Q (.ref p) (upd H p (.lst ((sortU ns).map V.int)))) : wpAny (model X.prog X.w) X.A (call (.builtin "sorted") [.ref b]) (EP X pins σ Q) X.xe s := by
  refine sorted_set S (I.ok.hd hc) h64 fun s2 p out c2 ms keep eg eo hp hget hints hlt hmem hlen => ?_
  have em : ms = sortU ns := lt_uniq hlt (sortU_lt ns) fun z => (hmem z).trans (by rw [mem_sortU]; exact decide_eq_true_iff)
  have fits : (ms.map V.int).length ≤ sizeLine := by rw [List.length_map, hlen, sizeLine_eq]; omega
  have free : H p = none := I.hok.fresh hp
  have J : Inv X pins σ (upd H p (.lst (ms.map V.int))) { s with heap := s2.heap, gens := s2.gens, drawn := s2.drawn, toks := s2.toks } :=
    I.call (ch := []) (Un.laid keep hp free) (I.hok.laid keep hp ⟨fits, out.toList, c2, vals_of_ints hints, hget⟩) (by rw [eg]; exact I.bare) (fun _ z => nomatch z)
  have es : s2 = { s with heap := s2.heap, gens := s2.gens, drawn := s2.drawn, toks := s2.toks } := by
    obtain ⟨_, _, _, _, _⟩ := s2
    obtain ⟨_, _, _, _, _⟩ := s
    cases eo
    rfl
  rw [es]
  subst em
  exact ⟨.ref p, _, J, rfl, q p free⟩
theorem pe_sortSet {e : Expr} {te : TE} {p p2 pos pos2 : Pos} (hg : Gl X "sorted") (hm : X.mg "sorted" = none) (hg2 : Gl X "set") (hm2 : X.mg "set" = none) (he : PE X e te) (hc : X.calm = true := by rfl)
    (na : starEach [e] X.env = (false, eval e X.env) :: starEach [] X.env := by rfl) : PE X (.Call (.Name "sorted" p) [.Call (.Name "set" p2) [e] [] pos2] [] pos) (tSortSet X.K te) := by
  refine ⟨fun pins s σ H Q I h => Call_ (ld_blt I hg hm PyProof.Rows.boot_sorted (PyProof.Rows.callWith_builtin1 (PyProof.Rows.args_cons (Call_ (ld_blt I hg2 hm2 PyProof.Rows.boot_set ?_)) rfl) rfl rfl))⟩
  refine PyProof.Rows.callWith_type1 (PyProof.Rows.args_cons (thn (he.run pins s σ H _ I h) fun v s1 ⟨x, H1, I1, r1, l, ns, ex, hq, h64, q⟩ => PyProof.Rows.args_nil ?_) na) na rfl
  subst ex
  cases r1
  rcases hq with hq | hq
  · obtain ⟨its, rv, pl, hz⟩ := I1.list hq
    refine set_listI ns (I1.ok.hd hc) pl.isList (by simpa using rv.ints) (small_scan h64) fun h2 tk c S lc keep => PyProof.Rows.args_nil ?_
    exact sorted_end hc (I1.kept fun b o eo => keep b o eo) S (Nat.lt_of_le_of_lt lc h64) q
  · obtain ⟨its, rv, pl, hz⟩ := I1.tuple hq
    refine call_set_tupI ns (I1.ok.hd hc) pl (by simpa using rv.ints) (small_scan h64) fun h2 tk c S lc keep => PyProof.Rows.args_nil ?_
    exact sorted_end hc (I1.kept fun b o eo => keep b o eo) S (Nat.lt_of_le_of_lt lc h64) q
/-- over a list or a tuple -/
theorem pi_seq {tg e : Expr} {te : TE} (he : PE X e te) : PI X tg e (tSeqI X.K te) := by
  refine ⟨fun pins s σ H R I h => thn (he.run pins s σ H _ I h) fun u s1 ⟨y, H1, I1, r1, l, ey, q⟩ => ?_⟩
  subst ey
  cases r1
  have fp : ∀ b ∈ [s1.heap.objs.size], _ := fun b hb => by
    have eb : b = s1.heap.objs.size := List.mem_singleton.mp hb
    exact eb ▸ I1.fpOk (H' := H1) (Nat.le_refl _) (I1.hok.fresh (Nat.le_refl _))
  rcases q with ⟨⟨xs, hq⟩, q⟩ | ⟨⟨xs, hq⟩, q⟩
  · obtain ⟨its, rv, pl, hz⟩ := I1.list hq
    exact wpAny_pyIter_list pl.isList ⟨_, [s1.heap.objs.size], _, _, H1, rfl, I1.kept (t' := s1.toks) fun b o eo => Heap.get?_push_of_some _ eo, turn_list l _, ⟨_, Heap.get?_push_size _ rfl, rfl, rfl⟩, fp, q⟩
  · obtain ⟨its, rv, pl, hz⟩ := I1.tuple hq
    exact wpAny_pyIter_tuple (show s1.heap.IsTuple l its.toArray from pl) ⟨_, [s1.heap.objs.size], _, _, H1, rfl, I1.kept (t' := s1.toks) fun b o eo => Heap.get?_push_of_some _ eo, turn_tuple l _, ⟨_, Heap.get?_push_size _ rfl, rfl, rfl⟩, fp, q⟩
/-! ### min(xs, default=d) -/
theorem dpInt {K : PySem.W.Frag} {H : Hp} : ∀ xs : List Int, DpAll K H (xs.map V.int) (xs.map PyData.int)
  | [] => .nil
  | x :: xs => .cons (.int _) (dpInt xs)
def rMinDf (K : PySem.W.Frag) : List V → List V → Hp → VK → Prop := fun vs zs H Q => ∃ (a : Addr) (ns : List Int) (d : Int), vs = [V.ref a] ∧ zs = [V.int d] ∧ SqL K H a (ns.map V.int) ∧ Q (.int (minDf d ns)) H
theorem cr_minDf (hc : X.calm = true) (hu : X.A.units + 64 < cLine) : CallRK X (.builtin "min") [Str.ofString "default"] (rMinDf X.K) := by
  intro pins s σ H vs zs us ws Q I r rz h
  obtain ⟨a, ns, d, rfl, rfl, hs, q⟩ := h
  obtain ⟨its, rv, hl, _⟩ := I.list hs
  obtain rfl := Vals.ref1 r
  obtain ⟨w1, rfl, td, e1⟩ := vals1 rz
  obtain ⟨as, ra⟩ := Dp.readsAll I _ _ _ (dpInt ns) rv
  subst e1
  refine PySem.W.min_list_datum_default (α := Int) (xs := ns) (I.ok.hd hc) hl.isList ⟨as, (show ReadsAll s.heap its.toArray.toList (ns.map PyData.int) as from ra)⟩ (by show _ + 1 + 0 < _; omega) (fun e h' tk hk => ?_) fun y ys i v h' tk e hv ho hk => ?_
  · subst e
    exact ⟨.int _, H, I.kept hk, ⟨_, rfl⟩, q⟩
  · subst e
    obtain ⟨bs, rd⟩ := ho
    have q : Q (.int (PySem.W.minOf y ys)) H := by
      have e2 : PySem.W.minOf y ys = minDf d (y :: ys) := by
        show ys.foldl _ y = ys.foldl _ y
        congr 1
        funext a z
        show (if decide (z < a) = true then z else a) = _
        by_cases c : z < a <;> simp [c]
      rw [e2]
      exact q
    generalize PySem.W.minOf y ys = m at rd q
    cases rd
    exact ⟨.int _, H, I.kept hk, ⟨_, rfl⟩, q⟩
end
end M
namespace M
open PySem PySem.Spec PyProof.Rows L2
def lSortU (ns : List Int) : Res (List Int) := if ns.length < 64 then .ok (sortU ns) else .bad
section
variable {K : PySem.W.Frag} {mg : Str → Option Value} {I H I' H' : Hp} {σ σ' ρ : List (Option V)} {Γ Γ' Θ : List Cell} {i j n : Nat} {v v1 v2 v3 : V} {c c1 c2 : Cell} {o : Option V} {te tl ti to td : TE} {ta : TA} {tt : TT} {t u : TS} {dn db dc : L2.St → Hp → Prop} {dr : VK} {Q : VK} {W : WX}
variable {ω : Type} {P : ω → Prop} {X : Exn → Prop} {α β γ δ : Type} {pn : Option V}
/-! ### a list or a tuple -/
theorem Env.listSeq [Rep α] {xs : List α} (E : Env K I H σ Γ (some v :: ρ) (.im xs :: Θ)) : Env K I H σ Γ (some v :: ρ) (.im (SeqL.mk xs) :: Θ) := E.pop.push (a := SeqL.mk xs) (by
  obtain ⟨a, vs, rfl, hq, p⟩ := E.topR
  exact ⟨a, vs, rfl, .inl hq, p⟩)
theorem Env.tupSeq [Rep α] {xs : TupL α} (E : Env K I H σ Γ (some v :: ρ) (.im xs :: Θ)) : Env K I H σ Γ (some v :: ρ) (.im (SeqL.mk xs.l) :: Θ) := E.pop.push (a := SeqL.mk xs.l) (by
  obtain ⟨a, vs, rfl, hq, p⟩ := E.topR
  exact ⟨a, vs, rfl, .inr hq, p⟩)
theorem seq_at [Rep α] {xs : SeqL α} (r : Rep.rp K I v xs) (s : Same I H) : ∃ a vs, v = .ref a ∧ (SqL K H a vs ∨ SqT K H a vs) ∧ Paired (fun v x => Rep.rp K I v x) vs xs.l := by
  obtain ⟨a, vs, e, h, p⟩ := r
  exact ⟨a, vs, e, h.imp (fun h => SqL.of (s _ _ h)) (same_seqT s), p⟩
theorem hf_lenS [Rep α] {xs : SeqL α} (hΓ : Γ[j]? = some (.im xs)) : HF K (tCB (rLen2 K) (tCons (tVar j) tNil)) Γ (.ok ((xs.l.length : Nat) : Int)) := .mk fun X Q E q => by
  obtain ⟨v, hs, r⟩ := E.get hΓ
  obtain ⟨a, vs, e, ha, p⟩ := seq_at r E.same
  subst e
  refine ⟨_, hs, a, vs, rfl, ha, ?_⟩
  have hl : vs.length = xs.l.length := Paired.length p
  rw [hl]
  exact q trivial
theorem st_lenS [Rep α] {xs : SeqL α} (E : Env K I H σ Γ (some v :: ρ) (.im xs :: Θ)) (next : ∀ v, Env K I H σ Γ (some v :: ρ) (.im ((xs.l.length : Nat) : Int) :: Θ) → Q v H) : CbG (rLen2 K) [v] H Q := by
  obtain ⟨a, vs, e, ha, p⟩ := seq_at E.topR E.same
  subst e
  have hl : vs.length = xs.l.length := Paired.length p
  exact ⟨a, vs, rfl, ha, next _ (E.pop.pushS (a := ((vs.length : Nat) : Int)) trivial |> fun z => by rw [← hl]; exact z)⟩
def SqIG (K : PySem.W.Frag) (v : V) (H1 : Hp) (R : It → Hp → Prop) : Prop := ∃ a, v = .ref a ∧ (((∃ xs, SqL K H1 a xs) ∧ R (Itl K a) H1) ∨ ((∃ xs, SqT K H1 a xs) ∧ R (Itt K a) H1))
theorem uSqI {R : It → Hp → Prop} (h : te σ H fun v H1 => SqIG K v H1 R) : tSeqI K te σ H R := h
theorem it_seq [Rep α] {R : It → Hp → Prop} {xs : SeqL α} (E : Env K I H σ Γ (some v :: ρ) (.im xs :: Θ)) (next : ∀ J c, Env K I H σ Γ (some v :: ρ) (c :: Θ) → Feeds K J xs.l [some v] [c] → R J H) : SqIG K v H R := by
  obtain ⟨a, vs, e, h, p⟩ := E.topR
  subst e
  rcases h with h | h
  · have E2 : Env K I H σ Γ (some (.ref a) :: ρ) (.im xs.l :: Θ) := E.pop.push (a := xs.l) ⟨a, vs, rfl, h, p⟩
    obtain ⟨b, e, hs, r⟩ := it_list (R := fun a => R (Itl K a) H) E2 fun a F => next _ _ E2 F
    exact ⟨b, e, .inl ⟨hs, r⟩⟩
  · have E2 : Env K I H σ Γ (some (.ref a) :: ρ) (.im (TupL.mk xs.l) :: Θ) := E.pop.push (a := TupL.mk xs.l) ⟨a, vs, rfl, h, p⟩
    obtain ⟨b, e, hs, r⟩ := it_tup (R := fun a => R (Itt K a) H) E2 fun a F => next _ _ E2 F
    exact ⟨b, e, .inr ⟨hs, r⟩⟩
theorem st_listSI [Rep α] {xs : SeqL α} (E : Env K I H σ Γ (some v :: ρ) (.im xs :: Θ)) (next : ∀ I' H' v, Env K I' H' σ Γ (some v :: ρ) (.im xs.l :: Θ) → Q v H') : CbG (rListOf K) [v] H Q := by
  obtain ⟨a, vs, rfl, ha, p⟩ := seq_at E.topR E.same
  exact ⟨a, vs, rfl, ha, st_newI (Env.pop E) p next⟩
theorem st_listSO [Rep α] {xs : SeqL α} (E : Env K I H σ Γ (some v :: ρ) (.im xs :: Θ)) (next : ∀ H' v, Env K I H' σ Γ (some v :: ρ) (.own xs.l :: Θ) → Q v H') : CbG (rListOf K) [v] H Q := by
  obtain ⟨a, vs, rfl, ha, p⟩ := seq_at E.topR E.same
  exact ⟨a, vs, rfl, ha, st_newO (Env.pop E) p next⟩
/-! ### sorted(set(xs)) -/
theorem uSortSet (h : te σ H fun v H1 => SsG K v H1 Q) : tSortSet K te σ H Q := h
theorem st_sortUI {xs : SeqL Int} {k : List Int → Res ω} (E : Env K I H σ Γ (some v :: ρ) (.im xs :: Θ)) (h : wp ((lSortU xs.l).bind k) P X) (next : ∀ xs' I' H' v, Env K I' H' σ Γ (some v :: ρ) (.im xs' :: Θ) → wp (k xs') P X → Q v H') : SsG K v H Q := by
  obtain ⟨a, vs, rfl, ha, p⟩ := seq_at E.topR E.same
  unfold lSortU at h
  split at h
  · rename_i h64
    refine ⟨a, xs.l, rfl, by rw [← ints_rp p]; exact ha, h64, fun q np => ?_⟩
    exact st_newI (Env.pop E) (rp_ints (sortU xs.l)) (fun I' H' v E => next _ I' H' v E h) q np
  · exact h.elim
theorem st_sortUO {xs : SeqL Int} {k : List Int → Res ω} (E : Env K I H σ Γ (some v :: ρ) (.im xs :: Θ)) (h : wp ((lSortU xs.l).bind k) P X) (next : ∀ xs' H' v, Env K I H' σ Γ (some v :: ρ) (.own xs' :: Θ) → wp (k xs') P X → Q v H') : SsG K v H Q := by
  obtain ⟨a, vs, rfl, ha, p⟩ := seq_at E.topR E.same
  unfold lSortU at h
  split at h
  · rename_i h64
    refine ⟨a, xs.l, rfl, by rw [← ints_rp p]; exact ha, h64, fun q np => ?_⟩
    exact st_newO (Env.pop E) (rp_ints (sortU xs.l)) (fun H' v E => next _ H' v E h) q np
  · exact h.elim
/-! ### gcd, min, max -/
theorem hc_gcd {x y : Int} : HC2 rGcd x y (.ok ((Nat.gcd x.natAbs y.natAbs : Nat) : Int)) := .mk fun X Q _ _ q => ⟨x, y, rfl, q trivial⟩
theorem min_uniq {x m : Int} {xs : List Int} (h1 : m ∈ x :: xs) (h2 : ∀ y ∈ x :: xs, m ≤ y) : m = minF x xs := by
  obtain ⟨a, b, c⟩ := minF_le xs x
  have e1 : minF x xs ≤ m := (List.mem_cons.mp h1).elim (fun e => by rw [e]; exact a) (b m)
  have e2 : m ≤ minF x xs := h2 _ (c.elim (fun e => by rw [e]; exact List.mem_cons_self) (List.mem_cons_of_mem _))
  omega
theorem max_uniq {x m : Int} {xs : List Int} (h1 : m ∈ x :: xs) (h2 : ∀ y ∈ x :: xs, y ≤ m) : m = maxF x xs := by
  obtain ⟨a, b, c⟩ := maxF_le xs x
  have e1 : m ≤ maxF x xs := (List.mem_cons.mp h1).elim (fun e => by rw [e]; exact a) (b m)
  have e2 : maxF x xs ≤ m := h2 _ (c.elim (fun e => by rw [e]; exact List.mem_cons_self) (List.mem_cons_of_mem _))
  omega
theorem hf_min_of {xs : List Int} (hv : ∀ {I H : Hp} {σ ρ : List (Option V)} {Θ : List Cell}, Env K I H σ Γ ρ Θ → ∃ a vs, σ[j]? = some (some (.ref a)) ∧ H a = some (.lst vs) ∧ Paired (fun v x => Rep.rp K I v x) vs xs) : HF K (tCB (rMin K) (tCons (tVar j) tNil)) Γ (minI xs) := .mk fun X Q E q => by
  obtain ⟨a, vs, hs, ha, p⟩ := hv E
  cases xs with
  | nil => exact q.elim
  | cons x xs =>
    refine ⟨_, hs, a, x :: xs, rfl, by rw [← ints_of p]; exact SqL.of ha, Nat.succ_pos _, fun m h1 h2 => ?_⟩
    rw [min_uniq h1 h2]
    exact q trivial
theorem hf_minL {xs : List Int} (hΓ : Γ[j]? = some (.im xs)) : HF K (tCB (rMin K) (tCons (tVar j) tNil)) Γ (minI xs) := hf_min_of fun E => E.listAt hΓ
theorem hf_minO {xs : List Int} (hΓ : Γ[j]? = some (.own xs pn)) : HF K (tCB (rMin K) (tCons (tVar j) tNil)) Γ (minI xs) := hf_min_of fun E => E.ownAt' hΓ
theorem hf_max_of {xs : List Int} (hv : ∀ {I H : Hp} {σ ρ : List (Option V)} {Θ : List Cell}, Env K I H σ Γ ρ Θ → ∃ a vs, σ[j]? = some (some (.ref a)) ∧ H a = some (.lst vs) ∧ Paired (fun v x => Rep.rp K I v x) vs xs) : HF K (tCB (rMax K) (tCons (tVar j) tNil)) Γ (maxI xs) := .mk fun X Q E q => by
  obtain ⟨a, vs, hs, ha, p⟩ := hv E
  cases xs with
  | nil => exact q.elim
  | cons x xs =>
    refine ⟨_, hs, a, x :: xs, rfl, by rw [← ints_of p]; exact SqL.of ha, Nat.succ_pos _, fun m h1 h2 => ?_⟩
    rw [max_uniq h1 h2]
    exact q trivial
theorem hf_maxL {xs : List Int} (hΓ : Γ[j]? = some (.im xs)) : HF K (tCB (rMax K) (tCons (tVar j) tNil)) Γ (maxI xs) := hf_max_of fun E => E.listAt hΓ
theorem hf_maxO {xs : List Int} (hΓ : Γ[j]? = some (.own xs pn)) : HF K (tCB (rMax K) (tCons (tVar j) tNil)) Γ (maxI xs) := hf_max_of fun E => E.ownAt' hΓ
theorem st_minI {xs : List Int} {k : Int → Res ω} (E : Env K I H σ Γ (some v :: ρ) (.im xs :: Θ)) (h : wp ((minI xs).bind k) P X) (next : ∀ m v, Env K I H σ Γ (some v :: ρ) (.im m :: Θ) → wp (k m) P X → Q v H) : CbG (rMin K) [v] H Q := by
  obtain ⟨a, vs, rfl, ha, p⟩ := E.topR
  cases xs with
  | nil => exact h.elim
  | cons x xs =>
    refine ⟨a, x :: xs, rfl, by rw [← ints_of p]; exact SqL.of (E.same _ _ ha), Nat.succ_pos _, fun m h1 h2 => ?_⟩
    rw [min_uniq h1 h2]
    exact next _ _ (E.pop.pushS (a := minF x xs) trivial) h
theorem st_maxI {xs : List Int} {k : Int → Res ω} (E : Env K I H σ Γ (some v :: ρ) (.im xs :: Θ)) (h : wp ((maxI xs).bind k) P X) (next : ∀ m v, Env K I H σ Γ (some v :: ρ) (.im m :: Θ) → wp (k m) P X → Q v H) : CbG (rMax K) [v] H Q := by
  obtain ⟨a, vs, rfl, ha, p⟩ := E.topR
  cases xs with
  | nil => exact h.elim
  | cons x xs =>
    refine ⟨a, x :: xs, rfl, by rw [← ints_of p]; exact SqL.of (E.same _ _ ha), Nat.succ_pos _, fun m h1 h2 => ?_⟩
    rw [max_uniq h1 h2]
    exact next _ _ (E.pop.pushS (a := maxF x xs) trivial) h
theorem hf_minDfL {xs : List Int} {d : Int} (hΓ : Γ[j]? = some (.im xs)) (hd : HF K td Γ (.ok d)) : HF K (tCKw (rMinDf K) (tCons (tVar j) tNil) (tCons td tNil)) Γ (.ok (minDf d xs)) := .mk fun X Q E q => by
  obtain ⟨a, vs, hs, ha, p⟩ := E.listAt hΓ
  exact ⟨_, hs, hd.run X _ E fun _ => ⟨a, xs, d, rfl, rfl, by rw [← ints_of p]; exact SqL.of ha, q trivial⟩⟩
/-! ### all(..), is True, a pair's parts -/
theorem bls_of : ∀ {vs : List V} {xs : List Bool}, Paired (fun v x => Rep.rp K I v x) vs xs → vs = xs.map V.bl
  | _, _, .nil => rfl
  | _, _, .cons r t => by
    have r' : _ = V.bl _ ∧ True := r
    rw [r'.1, bls_of t]
    rfl
theorem st_all {xs : List Bool} (E : Env K I H σ Γ (some v :: ρ) (.im xs :: Θ)) (next : ∀ v, Env K I H σ Γ (some v :: ρ) (.im (xs.all id) :: Θ) → Q v H) : CbG (rAll K) [v] H Q := by
  obtain ⟨a, vs, rfl, ha, p⟩ := E.topR
  exact ⟨a, xs, rfl, by rw [← bls_of p]; exact SqL.of (E.same _ _ ha), next _ (E.pop.pushS (a := xs.all id) trivial)⟩
theorem hr_isB {x y : Bool} : HR rIsB x y (.ok (decide (x = y))) := .mk fun X Q _ _ q => ⟨x, y, rfl, rfl, q trivial⟩
theorem hr_notB {x y : Bool} : HR rNotB x y (.ok (!decide (x = y))) := .mk fun X Q _ _ q => ⟨x, y, rfl, rfl, q trivial⟩
theorem hf_ixP0 [Sca α] [Rep β] {x : α × β} (hΓ : Γ[j]? = some (.im x)) : HF K (tOp (rIxT K) (tVar j) (tC (.int 0))) Γ (.ok x.1) := .mk fun X Q E q => by
  obtain ⟨v, hs, a, v1, v2, e, ha, p1, p2⟩ := E.get hΓ
  subst e
  refine ⟨_, hs, a, [v1, v2], 0, v1, rfl, rfl, same_seqT E.same ha, rfl, ?_⟩
  rw [p1.1]
  exact q p1.2
theorem hf_ixP1 [Rep α] [Sca β] {x : α × β} (hΓ : Γ[j]? = some (.im x)) : HF K (tOp (rIxT K) (tVar j) (tC (.int 1))) Γ (.ok x.2) := .mk fun X Q E q => by
  obtain ⟨v, hs, a, v1, v2, e, ha, p1, p2⟩ := E.get hΓ
  subst e
  refine ⟨_, hs, a, [v1, v2], 1, v2, rfl, rfl, same_seqT E.same ha, rfl, ?_⟩
  rw [p2.1]
  exact q p2.2
theorem st_ixP0 [Rep α] [Rep β] {x : α × β} (E : Env K I H σ Γ ρ Θ) (hΓ : Γ[j]? = some (.im x)) (next : ∀ v, Env K I H σ Γ (some v :: ρ) (.im x.1 :: Θ) → Q v H) : tOp (rIxT K) (tVar j) (tC (.int 0)) σ H Q := by
  obtain ⟨v, hs, a, v1, v2, e, ha, p1, p2⟩ := E.get hΓ
  subst e
  exact ⟨_, hs, a, [v1, v2], 0, v1, rfl, rfl, same_seqT E.same ha, rfl, next v1 (E.push p1)⟩
theorem st_ixP1 [Rep α] [Rep β] {x : α × β} (E : Env K I H σ Γ ρ Θ) (hΓ : Γ[j]? = some (.im x)) (next : ∀ v, Env K I H σ Γ (some v :: ρ) (.im x.2 :: Θ) → Q v H) : tOp (rIxT K) (tVar j) (tC (.int 1)) σ H Q := by
  obtain ⟨v, hs, a, v1, v2, e, ha, p1, p2⟩ := E.get hΓ
  subst e
  exact ⟨_, hs, a, [v1, v2], 1, v2, rfl, rfl, same_seqT E.same ha, rfl, next v2 (E.push p2)⟩
/-! ### reversed(xs) -/
def RvIG (K : PySem.W.Frag) (vs : List V) (H1 : Hp) (R : It → Hp → Prop) : Prop := ∃ (a : Addr) (xs : List V), vs = [.ref a] ∧ SqL K H1 a xs ∧ R (Itv K a xs.length) H1
theorem uRevI {R : It → Hp → Prop} (h : ta σ H fun vs H1 => RvIG K vs H1 R) : iRev K ta σ H R := h
theorem it_rev [Rep α] {R : It → Hp → Prop} {xs : List α} (E : Env K I H σ Γ (some v :: ρ) (.im xs :: Θ)) (next : ∀ J, Feeds K J xs.reverse [some v] [.im xs] → R J H) : RvIG K [v] H R := by
  obtain ⟨a, vs, e, hq, pr⟩ := E.topR
  subst e
  have ln : vs.length = xs.length := Paired.length pr
  refine ⟨a, vs, rfl, SqL.of (E.same _ _ hq), next _ ⟨rfl, fun {_ _} {_ _} {_ _} i E' hi => ?_, fun {I H} {_ _} {_ _} i x H' b E' hx hy => ?_, fun {_ _} {_ _} {_ _} i E' hi => ?_⟩⟩
  · obtain ⟨b, ws, e, hq', pr'⟩ := E'.topR
    cases e
    have hl : ws.length = xs.length := Paired.length pr'
    rw [List.length_reverse] at hi
    exact ⟨by omega, ws, ws[vs.length - 1 - i]'(by omega), SqL.of (E'.same _ _ hq'), List.getElem?_eq_getElem (by omega)⟩
  · obtain ⟨b', ws, e, hq', pr'⟩ := E'.topR
    cases e
    obtain ⟨rfl, hy⟩ := hy
    have hl : ws.length = xs.length := Paired.length pr'
    have hi : i < xs.length := by
      have := (List.getElem?_eq_some_iff.mp hx).1
      rw [List.length_reverse] at this
      exact this
    rw [List.getElem?_reverse hi] at hx
    exact ⟨I, Grow.refl E'.same, paired_at pr' (hy _ (SqL.of (E'.same _ _ hq'))) (by rw [ln]; exact hx)⟩
  · rw [List.length_reverse] at hi
    show vs.length ≤ i
    omega
end
end M
namespace M
open PySem PySem.Spec PyProof.Rows L2
/-! ### lists of a few things of unlike types -/
structure ML2 (α β : Type) where
  a : α
  b : β
instance repML2 {α β : Type} [Rep α] [Rep β] : Rep (ML2 α β) where
  rp K I v x := ∃ p v1 v2, v = .ref p ∧ I p = some (.lst [v1, v2]) ∧ Rep.rp K I v1 x.a ∧ Rep.rp K I v2 x.b
  mono := fun e ⟨p, v1, v2, e1, h, r1, r2⟩ => ⟨p, v1, v2, e1, e _ _ h, Rep.mono e r1, Rep.mono e r2⟩
structure ML3 (α β γ : Type) where
  a : α
  b : β
  c : γ
instance repML3 {α β γ : Type} [Rep α] [Rep β] [Rep γ] : Rep (ML3 α β γ) where
  rp K I v x := ∃ p v1 v2 v3, v = .ref p ∧ I p = some (.lst [v1, v2, v3]) ∧ Rep.rp K I v1 x.a ∧ Rep.rp K I v2 x.b ∧ Rep.rp K I v3 x.c
  mono := fun e ⟨p, v1, v2, v3, e1, h, r1, r2, r3⟩ => ⟨p, v1, v2, v3, e1, e _ _ h, Rep.mono e r1, Rep.mono e r2, Rep.mono e r3⟩
structure ML4 (α β γ δ : Type) where
  a : α
  b : β
  c : γ
  d : δ
instance repML4 {α β γ δ : Type} [Rep α] [Rep β] [Rep γ] [Rep δ] : Rep (ML4 α β γ δ) where
  rp K I v x := ∃ p v1 v2 v3 v4, v = .ref p ∧ I p = some (.lst [v1, v2, v3, v4]) ∧ Rep.rp K I v1 x.a ∧ Rep.rp K I v2 x.b ∧ Rep.rp K I v3 x.c ∧ Rep.rp K I v4 x.d
  mono := fun e ⟨p, v1, v2, v3, v4, e1, h, r1, r2, r3, r4⟩ => ⟨p, v1, v2, v3, v4, e1, e _ _ h, Rep.mono e r1, Rep.mono e r2, Rep.mono e r3, Rep.mono e r4⟩
section
variable {K : PySem.W.Frag} {mg : Str → Option Value} {I H I' H' : Hp} {σ σ' ρ : List (Option V)} {Γ Γ' Θ : List Cell} {i j n : Nat} {v v1 v2 v3 v4 : V} {Q : VK} {ω : Type} {P : ω → Prop} {X : Exn → Prop} {α β γ δ : Type}
theorem st_mk2 [Rep α] [Rep β] {x1 : α} {x2 : β} (E : Env K I H σ Γ (some v2 :: some v1 :: ρ) (.im x2 :: .im x1 :: Θ)) (next : ∀ I' H' v, Env K I' H' σ Γ (some v :: ρ) (.im (ML2.mk x1 x2) :: Θ) → Q v H') : LsG [v1, v2] H Q := by
  refine ⟨line_of (by decide : (2 : Nat) ≤ line), fun p hp => ?_⟩
  have r2 := E.topR
  have r1 := E.pop.topR
  have E2 := E.pop.pop
  have m : ∀ {γ : Type} [Rep γ] {v : V} {z : γ}, Rep.rp K I v z → Rep.rp K (upd I p (.lst [v1, v2])) v z := fun q => Rep.mono (fun a o e => by rw [upd_ne (ne_of_none e (E2.2.2.none_of hp))]; exact e) q
  exact next _ _ _ ((E2.grow (Grow.newI (u := .lst [v1, v2]) E2.same hp)).push ⟨p, v1, v2, rfl, upd_same, m r1, m r2⟩)
theorem st_ixM2_0 [Rep α] [Rep β] {x : ML2 α β} (E : Env K I H σ Γ ρ Θ) (hΓ : Γ[j]? = some (.im x)) (next : ∀ v, Env K I H σ Γ (some v :: ρ) (.im x.a :: Θ) → Q v H) : tOp (rIxL K) (tVar j) (tC (.int 0)) σ H Q := by
  obtain ⟨v, hs, a, v1, v2, e, ha, p1, p2⟩ := E.get hΓ
  subst e
  exact ⟨_, hs, a, [v1, v2], 0, v1, rfl, rfl, SqL.of (E.same _ _ ha), rfl, next v1 (E.push p1)⟩
theorem hf_ixM2_0 [Sca α] [Rep β] {x : ML2 α β} (hΓ : Γ[j]? = some (.im x)) : HF K (tOp (rIxL K) (tVar j) (tC (.int 0))) Γ (.ok x.a) := .mk fun X Q E q => by
  obtain ⟨v, hs, a, v1, v2, e, ha, p1, p2⟩ := E.get hΓ
  subst e
  refine ⟨_, hs, a, [v1, v2], 0, v1, rfl, rfl, SqL.of (E.same _ _ ha), rfl, ?_⟩
  rw [p1.1]
  exact q p1.2
theorem st_ixM2_1 [Rep α] [Rep β] {x : ML2 α β} (E : Env K I H σ Γ ρ Θ) (hΓ : Γ[j]? = some (.im x)) (next : ∀ v, Env K I H σ Γ (some v :: ρ) (.im x.b :: Θ) → Q v H) : tOp (rIxL K) (tVar j) (tC (.int 1)) σ H Q := by
  obtain ⟨v, hs, a, v1, v2, e, ha, p1, p2⟩ := E.get hΓ
  subst e
  exact ⟨_, hs, a, [v1, v2], 1, v2, rfl, rfl, SqL.of (E.same _ _ ha), rfl, next v2 (E.push p2)⟩
theorem hf_ixM2_1 [Rep α] [Sca β] {x : ML2 α β} (hΓ : Γ[j]? = some (.im x)) : HF K (tOp (rIxL K) (tVar j) (tC (.int 1))) Γ (.ok x.b) := .mk fun X Q E q => by
  obtain ⟨v, hs, a, v1, v2, e, ha, p1, p2⟩ := E.get hΓ
  subst e
  refine ⟨_, hs, a, [v1, v2], 1, v2, rfl, rfl, SqL.of (E.same _ _ ha), rfl, ?_⟩
  rw [p2.1]
  exact q p2.2
theorem st_mk3 [Rep α] [Rep β] [Rep γ] {x1 : α} {x2 : β} {x3 : γ} (E : Env K I H σ Γ (some v3 :: some v2 :: some v1 :: ρ) (.im x3 :: .im x2 :: .im x1 :: Θ)) (next : ∀ I' H' v, Env K I' H' σ Γ (some v :: ρ) (.im (ML3.mk x1 x2 x3) :: Θ) → Q v H') : LsG [v1, v2, v3] H Q := by
  refine ⟨line_of (by decide : (3 : Nat) ≤ line), fun p hp => ?_⟩
  have r3 := E.topR
  have r2 := E.pop.topR
  have r1 := E.pop.pop.topR
  have E2 := E.pop.pop.pop
  have m : ∀ {γ : Type} [Rep γ] {v : V} {z : γ}, Rep.rp K I v z → Rep.rp K (upd I p (.lst [v1, v2, v3])) v z := fun q => Rep.mono (fun a o e => by rw [upd_ne (ne_of_none e (E2.2.2.none_of hp))]; exact e) q
  exact next _ _ _ ((E2.grow (Grow.newI (u := .lst [v1, v2, v3]) E2.same hp)).push ⟨p, v1, v2, v3, rfl, upd_same, m r1, m r2, m r3⟩)
theorem st_ixM3_0 [Rep α] [Rep β] [Rep γ] {x : ML3 α β γ} (E : Env K I H σ Γ ρ Θ) (hΓ : Γ[j]? = some (.im x)) (next : ∀ v, Env K I H σ Γ (some v :: ρ) (.im x.a :: Θ) → Q v H) : tOp (rIxL K) (tVar j) (tC (.int 0)) σ H Q := by
  obtain ⟨v, hs, a, v1, v2, v3, e, ha, p1, p2, p3⟩ := E.get hΓ
  subst e
  exact ⟨_, hs, a, [v1, v2, v3], 0, v1, rfl, rfl, SqL.of (E.same _ _ ha), rfl, next v1 (E.push p1)⟩
theorem hf_ixM3_0 [Sca α] [Rep β] [Rep γ] {x : ML3 α β γ} (hΓ : Γ[j]? = some (.im x)) : HF K (tOp (rIxL K) (tVar j) (tC (.int 0))) Γ (.ok x.a) := .mk fun X Q E q => by
  obtain ⟨v, hs, a, v1, v2, v3, e, ha, p1, p2, p3⟩ := E.get hΓ
  subst e
  refine ⟨_, hs, a, [v1, v2, v3], 0, v1, rfl, rfl, SqL.of (E.same _ _ ha), rfl, ?_⟩
  rw [p1.1]
  exact q p1.2
theorem st_ixM3_1 [Rep α] [Rep β] [Rep γ] {x : ML3 α β γ} (E : Env K I H σ Γ ρ Θ) (hΓ : Γ[j]? = some (.im x)) (next : ∀ v, Env K I H σ Γ (some v :: ρ) (.im x.b :: Θ) → Q v H) : tOp (rIxL K) (tVar j) (tC (.int 1)) σ H Q := by
  obtain ⟨v, hs, a, v1, v2, v3, e, ha, p1, p2, p3⟩ := E.get hΓ
  subst e
  exact ⟨_, hs, a, [v1, v2, v3], 1, v2, rfl, rfl, SqL.of (E.same _ _ ha), rfl, next v2 (E.push p2)⟩
theorem hf_ixM3_1 [Rep α] [Sca β] [Rep γ] {x : ML3 α β γ} (hΓ : Γ[j]? = some (.im x)) : HF K (tOp (rIxL K) (tVar j) (tC (.int 1))) Γ (.ok x.b) := .mk fun X Q E q => by
  obtain ⟨v, hs, a, v1, v2, v3, e, ha, p1, p2, p3⟩ := E.get hΓ
  subst e
  refine ⟨_, hs, a, [v1, v2, v3], 1, v2, rfl, rfl, SqL.of (E.same _ _ ha), rfl, ?_⟩
  rw [p2.1]
  exact q p2.2
theorem st_ixM3_2 [Rep α] [Rep β] [Rep γ] {x : ML3 α β γ} (E : Env K I H σ Γ ρ Θ) (hΓ : Γ[j]? = some (.im x)) (next : ∀ v, Env K I H σ Γ (some v :: ρ) (.im x.c :: Θ) → Q v H) : tOp (rIxL K) (tVar j) (tC (.int 2)) σ H Q := by
  obtain ⟨v, hs, a, v1, v2, v3, e, ha, p1, p2, p3⟩ := E.get hΓ
  subst e
  exact ⟨_, hs, a, [v1, v2, v3], 2, v3, rfl, rfl, SqL.of (E.same _ _ ha), rfl, next v3 (E.push p3)⟩
theorem hf_ixM3_2 [Rep α] [Rep β] [Sca γ] {x : ML3 α β γ} (hΓ : Γ[j]? = some (.im x)) : HF K (tOp (rIxL K) (tVar j) (tC (.int 2))) Γ (.ok x.c) := .mk fun X Q E q => by
  obtain ⟨v, hs, a, v1, v2, v3, e, ha, p1, p2, p3⟩ := E.get hΓ
  subst e
  refine ⟨_, hs, a, [v1, v2, v3], 2, v3, rfl, rfl, SqL.of (E.same _ _ ha), rfl, ?_⟩
  rw [p3.1]
  exact q p3.2
theorem st_mk4 [Rep α] [Rep β] [Rep γ] [Rep δ] {x1 : α} {x2 : β} {x3 : γ} {x4 : δ} (E : Env K I H σ Γ (some v4 :: some v3 :: some v2 :: some v1 :: ρ) (.im x4 :: .im x3 :: .im x2 :: .im x1 :: Θ)) (next : ∀ I' H' v, Env K I' H' σ Γ (some v :: ρ) (.im (ML4.mk x1 x2 x3 x4) :: Θ) → Q v H') : LsG [v1, v2, v3, v4] H Q := by
  refine ⟨line_of (by decide : (4 : Nat) ≤ line), fun p hp => ?_⟩
  have r4 := E.topR
  have r3 := E.pop.topR
  have r2 := E.pop.pop.topR
  have r1 := E.pop.pop.pop.topR
  have E2 := E.pop.pop.pop.pop
  have m : ∀ {γ : Type} [Rep γ] {v : V} {z : γ}, Rep.rp K I v z → Rep.rp K (upd I p (.lst [v1, v2, v3, v4])) v z := fun q => Rep.mono (fun a o e => by rw [upd_ne (ne_of_none e (E2.2.2.none_of hp))]; exact e) q
  exact next _ _ _ ((E2.grow (Grow.newI (u := .lst [v1, v2, v3, v4]) E2.same hp)).push ⟨p, v1, v2, v3, v4, rfl, upd_same, m r1, m r2, m r3, m r4⟩)
theorem st_ixM4_0 [Rep α] [Rep β] [Rep γ] [Rep δ] {x : ML4 α β γ δ} (E : Env K I H σ Γ ρ Θ) (hΓ : Γ[j]? = some (.im x)) (next : ∀ v, Env K I H σ Γ (some v :: ρ) (.im x.a :: Θ) → Q v H) : tOp (rIxL K) (tVar j) (tC (.int 0)) σ H Q := by
  obtain ⟨v, hs, a, v1, v2, v3, v4, e, ha, p1, p2, p3, p4⟩ := E.get hΓ
  subst e
  exact ⟨_, hs, a, [v1, v2, v3, v4], 0, v1, rfl, rfl, SqL.of (E.same _ _ ha), rfl, next v1 (E.push p1)⟩
theorem hf_ixM4_0 [Sca α] [Rep β] [Rep γ] [Rep δ] {x : ML4 α β γ δ} (hΓ : Γ[j]? = some (.im x)) : HF K (tOp (rIxL K) (tVar j) (tC (.int 0))) Γ (.ok x.a) := .mk fun X Q E q => by
  obtain ⟨v, hs, a, v1, v2, v3, v4, e, ha, p1, p2, p3, p4⟩ := E.get hΓ
  subst e
  refine ⟨_, hs, a, [v1, v2, v3, v4], 0, v1, rfl, rfl, SqL.of (E.same _ _ ha), rfl, ?_⟩
  rw [p1.1]
  exact q p1.2
theorem st_ixM4_1 [Rep α] [Rep β] [Rep γ] [Rep δ] {x : ML4 α β γ δ} (E : Env K I H σ Γ ρ Θ) (hΓ : Γ[j]? = some (.im x)) (next : ∀ v, Env K I H σ Γ (some v :: ρ) (.im x.b :: Θ) → Q v H) : tOp (rIxL K) (tVar j) (tC (.int 1)) σ H Q := by
  obtain ⟨v, hs, a, v1, v2, v3, v4, e, ha, p1, p2, p3, p4⟩ := E.get hΓ
  subst e
  exact ⟨_, hs, a, [v1, v2, v3, v4], 1, v2, rfl, rfl, SqL.of (E.same _ _ ha), rfl, next v2 (E.push p2)⟩
theorem hf_ixM4_1 [Rep α] [Sca β] [Rep γ] [Rep δ] {x : ML4 α β γ δ} (hΓ : Γ[j]? = some (.im x)) : HF K (tOp (rIxL K) (tVar j) (tC (.int 1))) Γ (.ok x.b) := .mk fun X Q E q => by
  obtain ⟨v, hs, a, v1, v2, v3, v4, e, ha, p1, p2, p3, p4⟩ := E.get hΓ
  subst e
  refine ⟨_, hs, a, [v1, v2, v3, v4], 1, v2, rfl, rfl, SqL.of (E.same _ _ ha), rfl, ?_⟩
  rw [p2.1]
  exact q p2.2
theorem st_ixM4_2 [Rep α] [Rep β] [Rep γ] [Rep δ] {x : ML4 α β γ δ} (E : Env K I H σ Γ ρ Θ) (hΓ : Γ[j]? = some (.im x)) (next : ∀ v, Env K I H σ Γ (some v :: ρ) (.im x.c :: Θ) → Q v H) : tOp (rIxL K) (tVar j) (tC (.int 2)) σ H Q := by
  obtain ⟨v, hs, a, v1, v2, v3, v4, e, ha, p1, p2, p3, p4⟩ := E.get hΓ
  subst e
  exact ⟨_, hs, a, [v1, v2, v3, v4], 2, v3, rfl, rfl, SqL.of (E.same _ _ ha), rfl, next v3 (E.push p3)⟩
theorem hf_ixM4_2 [Rep α] [Rep β] [Sca γ] [Rep δ] {x : ML4 α β γ δ} (hΓ : Γ[j]? = some (.im x)) : HF K (tOp (rIxL K) (tVar j) (tC (.int 2))) Γ (.ok x.c) := .mk fun X Q E q => by
  obtain ⟨v, hs, a, v1, v2, v3, v4, e, ha, p1, p2, p3, p4⟩ := E.get hΓ
  subst e
  refine ⟨_, hs, a, [v1, v2, v3, v4], 2, v3, rfl, rfl, SqL.of (E.same _ _ ha), rfl, ?_⟩
  rw [p3.1]
  exact q p3.2
theorem st_ixM4_3 [Rep α] [Rep β] [Rep γ] [Rep δ] {x : ML4 α β γ δ} (E : Env K I H σ Γ ρ Θ) (hΓ : Γ[j]? = some (.im x)) (next : ∀ v, Env K I H σ Γ (some v :: ρ) (.im x.d :: Θ) → Q v H) : tOp (rIxL K) (tVar j) (tC (.int 3)) σ H Q := by
  obtain ⟨v, hs, a, v1, v2, v3, v4, e, ha, p1, p2, p3, p4⟩ := E.get hΓ
  subst e
  exact ⟨_, hs, a, [v1, v2, v3, v4], 3, v4, rfl, rfl, SqL.of (E.same _ _ ha), rfl, next v4 (E.push p4)⟩
theorem hf_ixM4_3 [Rep α] [Rep β] [Rep γ] [Sca δ] {x : ML4 α β γ δ} (hΓ : Γ[j]? = some (.im x)) : HF K (tOp (rIxL K) (tVar j) (tC (.int 3))) Γ (.ok x.d) := .mk fun X Q E q => by
  obtain ⟨v, hs, a, v1, v2, v3, v4, e, ha, p1, p2, p3, p4⟩ := E.get hΓ
  subst e
  refine ⟨_, hs, a, [v1, v2, v3, v4], 3, v4, rfl, rfl, SqL.of (E.same _ _ ha), rfl, ?_⟩
  rw [p4.1]
  exact q p4.2
end
end M
namespace M
open PySem PySem.Spec PyProof.Rows L2 L2N
/-! ### try with several clauses, each with or without a name for what it catches -/
abbrev Clause : Type := Value × Option Nat × (Addr → Value → Option Addr → TS)
def goneE (i : Nat) (D : Ends) : Ends := { nx := fun σ H => D.nx (σ.set i none) H, rt := D.rt, bk := fun σ H => D.bk (σ.set i none) H, ct := fun σ H => D.ct (σ.set i none) H }
def wGen (K : PySem.W.Frag) (Wout : WX) (D : Ends) : List Clause → WX
  | [] => Wout
  | (c, none, ts) :: r => fun cls d σ H => ∃ b, PySem.W.exmOne K cls c = some b ∧ (b = true → ∀ a, H a = none → ts a cls d D σ H) ∧ (b = false → wGen K Wout D r cls d σ H)
  | (c, some i, ts) :: r => fun cls d σ H => ∃ b, PySem.W.exmOne K cls c = some b ∧ (b = true → ∀ a, H a = none → ts a cls d (goneE i D) (σ.set i (some (.ref a))) H) ∧ (b = false → wGen K Wout D r cls d σ H)
inductive COk (X : Cx) : List ExceptHandler → List Clause → Prop
  | nil : COk X [] []
  | as {x n : Str} {i : Nat} {c : Value} {ts : Addr → Value → Option Addr → TS} {b₀ : Stmt} {su : List Stmt} {np hp : Pos} {hs : List ExceptHandler} {l : List Clause} (hi : X.N[i]? = some n) (hl : X.env.kindOf n = some .local) (hc : Names X x c)
      (hsu : ∀ (a : Addr) (oe : Obj) (cls : Value) (d : Option Addr) (pn : List (Addr × Obj)), L2N.Zn cls d oe → (∃ vs, oe.data = .fields vs) → PSs (X.suite a ((a, oe) :: pn)) (b₀ :: su) (ts a cls d)) (r : COk X hs l) :
      COk X (.ExceptHandler (some (.Name x np)) (some n) (b₀ :: su) hp :: hs) ((c, some i, ts) :: l)
  | no {x : Str} {c : Value} {ts : Addr → Value → Option Addr → TS} {b₀ : Stmt} {su : List Stmt} {np hp : Pos} {hs : List ExceptHandler} {l : List Clause} (hc : Names X x c)
      (hsu : ∀ (a : Addr) (oe : Obj) (cls : Value) (d : Option Addr) (pn : List (Addr × Obj)), L2N.Zn cls d oe → (∃ vs, oe.data = .fields vs) → PSs (X.suite a ((a, oe) :: pn)) (b₀ :: su) (ts a cls d)) (r : COk X hs l) :
      COk X (.ExceptHandler (some (.Name x np)) none (b₀ :: su) hp :: hs) ((c, none, ts) :: l)
def tTryM (tb : WX → TS) (K : PySem.W.Frag) (l : List Clause) : TS := fun D σ H => tb (wGen K (fun _ _ _ _ => False) D l) D σ H
section
variable {X : Cx} {body : List Stmt} {h1 : ExceptHandler} {hs : List ExceptHandler} {l : List Clause} {pos : Pos} {tb : WX → TS}
theorem ps_tryM (est : X.stack = X.env :: X.outer) (efr : X.env.frame = some X.env.locals) (nd : X.N.Nodup)
    (hb : ∀ (W : WX) (pn : List (Addr × Obj)) (xe : Value → Shared → Prop), L2N.Takes (X.tr pn xe) W → PassesOwn (model X.prog X.w) X.A X.env xe → PSs (X.tr pn xe) body (tb W))
    (hh : COk X (h1 :: hs) l) : PS X (.Try body (h1 :: hs) [] [] pos) (tTryM tb X.K l) := by
  have tk : L2N.Takes X (fun _ _ _ _ => False) := takesN0
  refine ⟨fun pins s σ H D I h => wpAny_Try_except ?_⟩
  have okI := I.ok
  have frs1 : X.A.frames = some (X.env :: X.outer) := by rw [okI.frames, est]
  refine wpAny_mono ((hb (wGen X.K (fun _ _ _ _ => False) D l) (X.pn ++ pins) (fun e t1 => wpAny (model X.prog X.w) X.A (noteFrame e X.env) (fun _ t2 => wpAny (model X.prog X.w) X.A (setFlight e none) (fun _ t3 =>
    wpAny (model X.prog X.w) X.A (handleBy e X.env (h1 :: hs)) (SP X pins D) X.xe t3) X.xe t2) X.xe t1) (fun u t0 caught => ?_) PassesOwn.looking).run [] s σ H D (I.toTry _) h) (fun fl t0 post => ?_) (fun _ _ z => z)
  · obtain ⟨a, B, sI, pz, σx, Hx, cls, d, rfl, Jt, inB, upS, sky0, na, eos, bare, w⟩ := caught
    have J : Inv X pins σx Hx sI := Jt.ofTry okI
    have sky : Sky B (X.env :: X.outer) a (L2N.Zn cls d) X.env.locals t0.heap := by rw [← est]; exact sky0
    show wpAny (model X.prog X.w) X.A (noteFrame (.ref a) X.env) _ _ _
    refine Sky.land L2N.Zn.steady frs1 efr sky fun g3 fly3 up3 => ?_
    have J3 : Inv X pins σx Hx { t0 with heap := g3 } := J.landed inB fly3.1 (upS.trans up3) eos bare
    obtain ⟨ob3, ws3, at3, zn3, dt3⟩ := fly3.there
    have off : a ∉ frs (X.env :: X.outer) := fun hm => by
      obtain ⟨_, o2, e2, nf⟩ := fly3.2.2.1.mem hm
      rw [at3] at e2
      cases e2
      exact nf _ dt3
    have offL : a ≠ X.env.locals := fun z => off (List.mem_filterMap.mpr ⟨X.env, List.mem_cons_self, by rw [efr, z]⟩)
    have offF : a ∉ X.fs := fun hm => by
      obtain ⟨e, me, q⟩ := List.mem_filterMap.mp hm
      exact off (List.mem_filterMap.mpr ⟨e, List.mem_cons_of_mem _ me, q⟩)
    have S3 := J3.suite at3 dt3 na offL offF
    have LT : PySem.W.Looks (model X.prog X.w) g3 (typeOf (.ref a)) cls := fun A Q E s k q => wpAny_typeOf_ref (k _ _ at3) (by rw [zn3.1]; exact q)
    have look : ∀ {x : Str} {c : Value} {np : Pos}, Names X x c → ∀ {Q : Value → Shared → Prop} {E : Value → Shared → Prop}, Q c { t0 with heap := g3 } → wpAny (model X.prog X.w) (X.A.mark (some (.ref a))) (eval (.Name x np) X.env) Q E { t0 with heap := g3 } := fun {x c np} hc {Q E} q => by
      obtain ⟨gx, db, k | ⟨k, bv, nn⟩⟩ := hc
      · exact ld_glob (X := X.suite a ((a, ob3) :: (X.pn ++ pins))) S3 gx k q db
      · exact ld_blt (X := X.suite a ((a, ob3) :: (X.pn ++ pins))) S3 gx k bv q nn db
    have go : ∀ {hds : List ExceptHandler} {lc : List Clause}, COk X hds lc → wGen X.K (fun _ _ _ _ => False) D lc cls d σx Hx → wpAny (model X.prog X.w) X.A (handleBy (.ref a) X.env hds) (SP X pins D) X.xe { t0 with heap := g3 } := by
      intro hds lc ck
      induction ck with
      | nil => exact fun z => z.elim
      | @as x n i c ts b₀ su np hp hs2 l2 hi hl hc hsu r ih =>
        rintro ⟨b, eb, yes, no⟩
        refine wpAny_handleBy_cons (codeAny_handlers_test (look hc ((PySem.W.exm_one (M := model X.prog X.w) J3.kIn LT eb).here ?_))) (by intro q; cases q)
        cases b with
        | true =>
          refine codeAny_handlers_suite_as (HandSPX.lands_againZ fly3 fun g4 fly4 up4 => ?_)
          have J4 : Inv X pins σx Hx { t0 with heap := g4 } := J.landed inB fly4.1 ((upS.trans up3).trans up4) eos bare
          obtain ⟨ob4, ws4, at4, zn4, dt4⟩ := fly4.there
          have S4 := J4.suite at4 dt4 na offL offF
          refine store_ok (X := X.suite a ((a, ob4) :: (X.pn ++ pins))) (v := .ref a) S4 nd hi (.inl hl) rfl (fun t5 S5 => ?_) (.inr hl)
          refine wpAny_mono ((hsu a ob4 cls d (X.pn ++ pins) zn4 ⟨_, dt4⟩).run [] t5 _ Hx _ S5 (yes rfl a na)) (fun fl t6 post => ?_) (fun _ _ z => z.elim)
          have fin : ∀ {σy : L2.St} {Hy : Hp} {Q : Shared → Prop}, Inv (X.suite a ((a, ob4) :: (X.pn ++ pins))) [] σy Hy t6 → (∀ t7, Inv X pins (σy.set i none) Hy t7 → Q t7) →
              wpAny (model X.prog X.w) X.A (do bindName X.env n .none; unbindBehindTheSuite X.env n hp) (fun _ t7 => Q t7) X.xe t6 := fun {σy Hy Q} S6 q => gone_ok (S6.unsuite okI) nd hi hl q
          cases fl with
          | next =>
            obtain ⟨σy, Hy, S6, q6⟩ := post
            exact fin S6 fun _ J7 => ⟨_, _, J7, q6⟩
          | brk =>
            obtain ⟨σy, Hy, S6, q6⟩ := post
            exact fin S6 fun _ J7 => ⟨_, _, J7, q6⟩
          | cont =>
            obtain ⟨σy, Hy, S6, q6⟩ := post
            exact fin S6 fun _ J7 => ⟨_, _, J7, q6⟩
          | ret u =>
            obtain ⟨vy, σy, Hy, S6, ry, q6⟩ := post
            exact fin S6 fun _ J7 => ⟨_, _, _, J7, ry, q6⟩
        | false => exact ih (no rfl)
      | @no x c ts b₀ su np hp hs2 l2 hc hsu r ih =>
        rintro ⟨b, eb, yes, no⟩
        refine wpAny_handleBy_cons (codeAny_handlers_test (look hc ((PySem.W.exm_one (M := model X.prog X.w) J3.kIn LT eb).here ?_))) (by intro q; cases q)
        cases b with
        | true =>
          refine codeAny_handlers_suite (HandSPX.lands_againZ fly3 fun g4 fly4 up4 => ?_)
          have J4 : Inv X pins σx Hx { t0 with heap := g4 } := J.landed inB fly4.1 ((upS.trans up3).trans up4) eos bare
          obtain ⟨ob4, ws4, at4, zn4, dt4⟩ := fly4.there
          have S4 := J4.suite at4 dt4 na offL offF
          refine wpAny_mono ((hsu a ob4 cls d (X.pn ++ pins) zn4 ⟨_, dt4⟩).run [] _ _ Hx _ S4 (yes rfl a na)) (fun fl t6 post => ?_) (fun _ _ z => z.elim)
          cases fl with
          | next =>
            obtain ⟨σy, Hy, S6, q6⟩ := post
            exact ⟨_, _, S6.unsuite okI, q6⟩
          | brk =>
            obtain ⟨σy, Hy, S6, q6⟩ := post
            exact ⟨_, _, S6.unsuite okI, q6⟩
          | cont =>
            obtain ⟨σy, Hy, S6, q6⟩ := post
            exact ⟨_, _, S6.unsuite okI, q6⟩
          | ret u =>
            obtain ⟨vy, σy, Hy, S6, ry, q6⟩ := post
            exact ⟨_, _, _, S6.unsuite okI, ry, q6⟩
        | false => exact ih (no rfl)
    exact go hh w
  · cases fl with
    | next =>
      obtain ⟨σy, Hy, Jy, q⟩ := post
      exact wpAny_execs_nil ⟨σy, Hy, Jy.ofTry okI, q⟩
    | brk =>
      obtain ⟨σy, Hy, Jy, q⟩ := post
      exact ⟨σy, Hy, Jy.ofTry okI, q⟩
    | cont =>
      obtain ⟨σy, Hy, Jy, q⟩ := post
      exact ⟨σy, Hy, Jy.ofTry okI, q⟩
    | ret u =>
      obtain ⟨vy, σy, Hy, Jy, ry, q⟩ := post
      exact ⟨vy, σy, Hy, Jy.ofTry okI, ry, q⟩
end
section
variable {K : PySem.W.Frag} {mg : Str → Option Value} {I H I' H' : Hp} {σ σ' ρ : List (Option V)} {Γ Γ' Θ : List Cell} {i j n : Nat} {v : V} {Q : VK} {c : Value} {e : Exn} {Wout : WX} {D : Ends} {r l : List Clause} {ts : Addr → Value → Option Addr → TS} {dn db dc : L2.St → Hp → Prop} {dr : VK}
variable {ω : Type} {P : ω → Prop} {X : Exn → Prop}
theorem wg_as {b : Bool} (hx : ∀ cls, mg e.cls = some cls → PySem.W.exmOne K cls c = some b) (hi : i < Γ.length)
    (yes : b = true → ∀ I H σ' a d cls, mg e.cls = some cls → Env K I H σ' (Γ.set i (.im (⟨a, d, e⟩ : ExV))) ρ Θ → ts a cls (dOf d) (goneE i D) σ' H)
    (no : b = false → XWish K mg (wGen K Wout D r) σ Γ ρ Θ e) : XWish K mg (wGen K Wout D ((c, some i, ts) :: r)) σ Γ ρ Θ e := fun I' H' cls d hm E =>
  ⟨b, hx cls hm, fun hb a _ => yes hb I' H' _ a d cls hm (E.caught hi), fun hb => no hb I' H' cls d hm E⟩
theorem wg_no {b : Bool} (hx : ∀ cls, mg e.cls = some cls → PySem.W.exmOne K cls c = some b)
    (yes : b = true → ∀ I H (a : Addr) (d : V) cls, mg e.cls = some cls → Env K I H σ Γ ρ Θ → ts a cls (dOf d) D σ H)
    (no : b = false → XWish K mg (wGen K Wout D r) σ Γ ρ Θ e) : XWish K mg (wGen K Wout D ((c, none, ts) :: r)) σ Γ ρ Θ e := fun I' H' cls d hm E =>
  ⟨b, hx cls hm, fun hb a _ => yes hb I' H' a d cls hm E.pop, fun hb => no hb I' H' cls d hm E⟩
theorem st_tryM {ρτ S : Type} {tb : WX → TS} {m : Res (Lp ρτ S)} {f : Exn → Res (Lp ρτ S)} {k : Lp ρτ S → Res ω} (ΓT : List Cell) (R : ρτ → Prop) (G : S → List Cell) (E : Env K I H σ Γ ρ Θ) (h : wp ((m.catch f).bind k) P X)
    (ret : ∀ r, wp (k (.ret r)) P X → R r) (rest : ∀ s I' H' σ', Env K I' H' σ' (G s) ρ Θ → wp (k (.fin s)) P X → dn σ' H')
    (han : ∀ e, wp (f e) (TryP K G ρ Θ dn R) X → ∀ σ, XWish K mg (wGen K (fun _ _ _ _ => False) ⟨dn, dr, db, dc⟩ l) σ ΓT ρ Θ e)
    (body : (∀ e, wp (f e) (TryP K G ρ Θ dn R) X → ∀ σ, XWish K mg (wGen K (fun _ _ _ _ => False) ⟨dn, dr, db, dc⟩ l) σ ΓT ρ Θ e) → wp m (TryP K G ρ Θ dn R) (fun e => wp (f e) (TryP K G ρ Θ dn R) X) → tb (wGen K (fun _ _ _ _ => False) ⟨dn, dr, db, dc⟩ l) ⟨dn, dr, db, dc⟩ σ H) :
    tTryM tb K l ⟨dn, dr, db, dc⟩ σ H := by
  have h2 : wp (m.catch f) (TryP K G ρ Θ dn R) X := wp_mono (wp_bind.mp h) (fun y q => by
    cases y with
    | fin s => exact fun I' H' σ' E' => rest s I' H' σ' E' q
    | ret r => exact ret r q) fun _ z => z
  exact body han (wp_catch h2)
end
end M
namespace M
open PySem PySem.Spec PyProof.Rows L2
/-- a and b, a or b as values: the ways meet -/
theorem st_orV {K : PySem.W.Frag} {I H : Hp} {σ ρ : List (Option V)} {Γ Θ : List Cell} {Q : VK} {ω : Type} {P : ω → Prop} {X : Exn → Prop} {b : Bool} {mB : Res Bool} {k : Bool → Res ω} {tb : TE} (E : Env K I H σ Γ ρ Θ) (h : wp ((if b = true then .ok true else mB).bind k) P X)
    (h2 : wp mB (fun a => ∀ I' H' v, Env K I' H' σ Γ (some v :: ρ) (.im a :: Θ) → Q v H') X → tb σ H Q)
    (next : ∀ a I' H' v, Env K I' H' σ Γ (some v :: ρ) (.im a :: Θ) → wp (k a) P X → Q v H') : if b = true then Q (.bl true) H else tb σ H Q := by
  cases b with
  | true => exact next true I H _ (E.pushS (α := Bool) (a := true) trivial) h
  | false => exact h2 (wpb h fun a h I' H' v E => next a I' H' v E h)
theorem st_andV {K : PySem.W.Frag} {I H : Hp} {σ ρ : List (Option V)} {Γ Θ : List Cell} {Q : VK} {ω : Type} {P : ω → Prop} {X : Exn → Prop} {b : Bool} {mB : Res Bool} {k : Bool → Res ω} {tb : TE} (E : Env K I H σ Γ ρ Θ) (h : wp ((if b = true then mB else .ok false).bind k) P X)
    (h2 : wp mB (fun a => ∀ I' H' v, Env K I' H' σ Γ (some v :: ρ) (.im a :: Θ) → Q v H') X → tb σ H Q)
    (next : ∀ a I' H' v, Env K I' H' σ Γ (some v :: ρ) (.im a :: Θ) → wp (k a) P X → Q v H') : if b = true then tb σ H Q else Q (.bl false) H := by
  cases b with
  | true => exact h2 (wpb h fun a h I' H' v E => next a I' H' v E h)
  | false => exact next false I H _ (E.pushS (α := Bool) (a := false) trivial) h
end M
namespace M
open PySem PySem.Spec PyProof PyProof.Rows L2
section
variable {X : Cx} {x : Str} {p pos : Pos} {e : Expr} {t : TA} {K : PySem.W.Frag}
/-- list(e), the frag named -/
theorem pe_lstOf (hK : X.K = K) (hg : Gl X x) (hm : X.mg x = none) (hv : bootBuiltins x = some (.type "list")) (ha : PA X [e] t) (hn : x ≠ "__name__" := by decide) (hdb : (x == ("__debug__" : Str)) = false := by decide)
    (he : starEach [e] X.env = (false, eval e X.env) :: starEach [] X.env := by rfl) (hpl : (backTo pos (starEach [] X.env)).any (·.1) = false := by rfl) : PE X (.Call (.Name x p) [e] [] pos) (tCB (rListOf K) t) :=
  hK ▸ pe_callTy call_list_of hg hm hv ha hn hdb he hpl
theorem pe_tupOf (hK : X.K = K) (hg : Gl X x) (hm : X.mg x = none) (hv : bootBuiltins x = some (.type "tuple")) (ha : PA X [e] t) (hn : x ≠ "__name__" := by decide) (hdb : (x == ("__debug__" : Str)) = false := by decide)
    (he : starEach [e] X.env = (false, eval e X.env) :: starEach [] X.env := by rfl) (hpl : (backTo pos (starEach [] X.env)).any (·.1) = false := by rfl) : PE X (.Call (.Name x p) [e] [] pos) (tCB (rTupOf K) t) :=
  hK ▸ pe_callTy call_tuple_of hg hm hv ha hn hdb he hpl
end
end M
namespace M
open PySem PySem.Spec PyProof PyProof.Rows L2
theorem ix_listK {X : Cx} {K : PySem.W.Frag} (hK : X.K = K) : IxR X (rIxL K) := hK ▸ ix_list
theorem ix_tupK {X : Cx} {K : PySem.W.Frag} (hK : X.K = K) : IxR X (rIxT K) := hK ▸ ix_tup
end M
/-! plain facts about the mirrors' words -/
namespace M
open PySem L2
theorem rngR_ok {lo hi : Int} (h : RgOk lo hi) : rngR lo hi = .ok (rng lo hi) := by unfold rngR; rw [clo_eq]; exact if_pos h
theorem rgOk {lo hi : Int} (h1 : -1000000 ≤ lo) (h2 : lo ≤ 1000000) (h3 : -1000000 ≤ hi) (h4 : hi ≤ 1000000) : RgOk lo hi := by unfold RgOk; omega
theorem mem_rng {lo hi x : Int} : x ∈ rng lo hi ↔ lo ≤ x ∧ x < hi := by
  unfold rng
  rw [List.mem_map]
  constructor
  · rintro ⟨i, hi, rfl⟩
    have := List.mem_range.mp hi
    omega
  · rintro ⟨h1, h2⟩
    exact ⟨(x - lo).toNat, List.mem_range.mpr (by omega), by omega⟩
theorem rng_len {lo hi : Int} : (rng lo hi).length = (hi - lo).toNat := by unfold rng; simp
theorem modI_ok {x y : Int} (h : 0 < y) : modI x y = .ok (x % y) := by unfold modI; exact if_pos h
theorem log2_le {n k : Nat} (h : n < 2 ^ k) : n.log2 ≤ k := by
  by_cases e : n = 0
  · subst e; simp
  · exact Nat.le_of_lt ((Nat.log2_lt e).mpr h)
theorem divI_ok {x y : Int} (h : 0 < y) (h2 : y < 2 ^ 1000) : divI x y = .ok (x / y) := by
  unfold divI
  rw [clo_eq]
  refine if_pos ⟨h, ?_⟩
  have : y.natAbs < 2 ^ 1000 := by omega
  exact Nat.lt_of_le_of_lt (log2_le this) (by decide)
theorem mulI_ok {x y : Int} (h : x.natAbs < 2 ^ 1000) (h2 : y.natAbs < 2 ^ 1000) : mulI x y = .ok (x * y) := by
  unfold mulI
  rw [clo_eq]
  refine if_pos ?_
  have a := log2_le h
  have b := log2_le h2
  omega
theorem xCat_ok {a b : Tx} (h : a.length + b.length ≤ 100000) : xCat a b = .ok (a ++ b) := by
  unfold xCat
  rw [clo_eq]
  exact if_pos (Nat.le_trans h (by decide))
theorem ixN_nat {n k : Nat} (h : k < n) : ixN n (k : Int) = some k := by
  unfold ixN
  rw [if_pos (by omega), if_pos (by omega), Int.toNat_natCast]
theorem atI_nat {α : Type} {xs : List α} {k : Nat} (h : k < xs.length) : atI xs (k : Int) = some xs[k] := by
  unfold atI
  rw [ixN_nat h]
  exact List.getElem?_eq_getElem h
theorem lGet_nat {α : Type} {xs : List α} {k : Nat} (h : k < xs.length) : lGet xs (k : Int) = .ok xs[k] := by
  unfold lGet
  rw [atI_nat h]
theorem lGet_int {α : Type} {xs : List α} {i : Int} (h0 : 0 ≤ i) (h : i.toNat < xs.length) : lGet xs i = .ok xs[i.toNat] := by
  have e : ((i.toNat : Nat) : Int) = i := by omega
  have q := lGet_nat h
  rw [e] at q
  exact q
theorem xGet_nat {w : Tx} {k : Nat} (h : k < w.length) : xGet w (k : Int) = .ok [w[k]] := by
  unfold xGet
  rw [atI_nat h]
theorem xGet_int {w : Tx} {i : Int} (h0 : 0 ≤ i) (h : i.toNat < w.length) : xGet w i = .ok [w[i.toNat]] := by
  have e : ((i.toNat : Nat) : Int) = i := by omega
  have q := xGet_nat h
  rw [e] at q
  exact q
theorem lSet_nat {α : Type} {xs : List α} {k : Nat} {y : α} (h : k < xs.length) : lSet xs (k : Int) y = .ok (xs.set k y) := by
  unfold lSet
  rw [ixN_nat h]
theorem lApp_ok {α : Type} {xs : List α} {x : α} (h : xs.length < 100000) : lApp xs x = .ok (xs ++ [x]) := by
  unfold lApp
  rw [clo_eq]
  exact if_pos (Nat.lt_of_lt_of_le h (by decide))
theorem xRep_ok {w : Tx} {n : Int} (h0 : 0 ≤ n) (h1 : n ≤ 100000) (h2 : w.length * n.toNat ≤ 100000) : xRep w n = .ok (List.replicate n.toNat w).flatten := by
  unfold xRep
  rw [clo_eq]
  refine if_pos ⟨by omega, by omega, Nat.le_trans h2 (by decide)⟩
theorem lPopAt0 {α : Type} {x : α} {xs : List α} : lPopAt (x :: xs) (0 : Int) = .ok (x, xs) := by
  unfold lPopAt
  rw [clo_eq]
  rw [if_pos (by decide)]
  have e : seqIndex? (0 : Int) (x :: xs).length = some 0 := by
    unfold seqIndex?
    simp
  rw [e]
  rfl
/-! slices -/
theorem cut_from {α : Type} (xs : List α) (k : Nat) : cutL xs (some (k : Int)) none = xs.drop k := by
  unfold cutL
  rw [HT.sIx_nat]
  show (xs.drop (min k xs.length)).take (xs.length - min k xs.length) = _
  rw [List.take_of_length_le (by rw [List.length_drop]; omega)]
  by_cases h : k ≤ xs.length
  · rw [Nat.min_eq_left h]
  · rw [Nat.min_eq_right (by omega), List.drop_of_length_le (Nat.le_refl _), List.drop_of_length_le (by omega)]
theorem cut_to {α : Type} (xs : List α) (k : Nat) : cutL xs none (some (k : Int)) = xs.take k := by
  unfold cutL
  rw [HT.sIx_nat]
  show (xs.drop 0).take (min k xs.length - 0) = _
  rw [List.drop_zero, Nat.sub_zero]
  by_cases h : k ≤ xs.length
  · rw [Nat.min_eq_left h]
  · rw [Nat.min_eq_right (by omega), List.take_of_length_le (Nat.le_refl _), List.take_of_length_le (by omega)]
theorem cut_mid {α : Type} (xs : List α) (i j : Nat) : cutL xs (some (i : Int)) (some (j : Int)) = (xs.drop i).take (j - i) := by
  unfold cutL
  rw [HT.sIx_nat, HT.sIx_nat]
  by_cases h : i ≤ xs.length
  · rw [Nat.min_eq_left h]
    by_cases h2 : j ≤ xs.length
    · rw [Nat.min_eq_left h2]
    · rw [Nat.min_eq_right (by omega), List.take_of_length_le (by rw [List.length_drop]; omega), List.take_of_length_le (by rw [List.length_drop]; omega)]
  · rw [Nat.min_eq_right (by omega : xs.length ≤ i), List.drop_of_length_le (Nat.le_refl _), List.drop_of_length_le (by omega : xs.length ≤ i)]
    simp
theorem cut_last {α : Type} (xs : List α) (k : Nat) (h : 0 < k) : cutL xs (some (-(k : Int))) none = xs.drop (xs.length - k) := by
  unfold cutL
  have e : HT.sIx xs.length 0 (some (-(k : Int))) = xs.length - k := by
    show (if -(k : Int) < 0 then (-(k : Int) + (xs.length : Int)).toNat else _) = _
    rw [if_pos (by omega)]
    omega
  rw [e]
  show (xs.drop (xs.length - k)).take (xs.length - (xs.length - k)) = _
  rw [List.take_of_length_le (by rw [List.length_drop]; omega)]
/-! loops -/
/-- a search: the first x with P x -/
theorem forR_find {α ρ : Type} {f : α → Unit → Res (Fl ρ Unit)} {P : α → Bool} {g : α → ρ} : ∀ {xs : List α}, (∀ x ∈ xs, f x () = .ok (if P x = true then .rt (g x) else .nx ())) →
    forR f xs () = .ok (match xs.find? P with | some x => .ret (g x) | none => .fin ())
  | [], _ => forR_nil
  | x :: xs, h => by
    rw [forR_cons, h x List.mem_cons_self, Res.bind_ok]
    cases hp : P x with
    | true => rw [List.find?_cons_of_pos hp]; rfl
    | false =>
      rw [List.find?_cons_of_neg (by rw [hp]; decide)]
      exact forR_find fun y hy => h y (List.mem_cons_of_mem _ hy)
/-- nothing is found -/
theorem forR_all {α ρ S : Type} {f : α → S → Res (Fl ρ S)} {s : S} : ∀ {xs : List α}, (∀ x ∈ xs, f x s = .ok (.nx s)) → forR f xs s = .ok (.fin s)
  | [], _ => forR_nil
  | x :: xs, h => by
    rw [forR_cons, h x List.mem_cons_self, Res.bind_ok]
    exact forR_all fun y hy => h y (List.mem_cons_of_mem _ hy)
/-- each turn goes on -/
theorem forR_fold {α ρ S : Type} {f : α → S → Res (Fl ρ S)} {g : S → α → S} : ∀ {xs : List α} {s : S} (Iv : S → Prop), Iv s → (∀ x ∈ xs, ∀ s, Iv s → f x s = .ok (.nx (g s x)) ∧ Iv (g s x)) → forR f xs s = .ok (.fin (xs.foldl g s)) ∧ Iv (xs.foldl g s)
  | [], _, _, h0, _ => ⟨forR_nil, h0⟩
  | x :: xs, s, Iv, h0, h => by
    obtain ⟨e, h1⟩ := h x List.mem_cons_self s h0
    rw [forR_cons, e, Res.bind_ok]
    exact forR_fold Iv h1 fun y hy => h y (List.mem_cons_of_mem _ hy)
theorem forS_inv {α S : Type} {f : α → S → Res S} (Iv : Nat → S → Prop) : ∀ {xs : List α} {s : S} {k : Nat}, Iv k s → (∀ j s x, x ∈ xs → j < k + xs.length → Iv j s → ∃ s', f x s = .ok s' ∧ Iv (j + 1) s') → ∃ s', forS f xs s = .ok s' ∧ Iv (k + xs.length) s'
  | [], s, k, h0, _ => ⟨s, forS_nil, h0⟩
  | x :: xs, s, k, h0, h => by
    obtain ⟨s1, e, h1⟩ := h k s x List.mem_cons_self (by simp) h0
    obtain ⟨s2, e2, h2⟩ := forS_inv Iv (xs := xs) h1 fun k s y hy hk => h k s y (List.mem_cons_of_mem _ hy) (by rw [List.length_cons]; omega)
    refine ⟨s2, ?_, ?_⟩
    · rw [forS_cons, e, Res.bind_ok, e2]
    · rw [List.length_cons]
      have e3 : k + (xs.length + 1) = k + 1 + xs.length := by omega
      rw [e3]
      exact h2
theorem forS_use {α S γ : Type} {f : α → S → Res S} {K : S → Res γ} {xs : List α} {s : S} (motive : Res γ → Prop) (Iv : Nat → S → Prop) (h0 : Iv 0 s) (step : ∀ k s x, x ∈ xs → k < xs.length → Iv k s → ∃ s', f x s = .ok s' ∧ Iv (k + 1) s')
    (h : ∀ s', Iv xs.length s' → motive (K s')) : motive ((forS f xs s).bind K) := by
  obtain ⟨s', e, i⟩ := forS_inv Iv h0 (by rw [Nat.zero_add]; exact step)
  rw [e, Res.bind_ok]
  rw [Nat.zero_add] at i
  exact h s' i
theorem mapR_ok {α β : Type} {f : α → Res β} {g : α → β} : ∀ {xs : List α}, (∀ x ∈ xs, f x = .ok (g x)) → mapR f xs = .ok (xs.map g)
  | [], _ => mapR_nil
  | x :: xs, h => by
    rw [mapR_cons, h x List.mem_cons_self, Res.bind_ok, mapR_ok fun y hy => h y (List.mem_cons_of_mem _ hy), Res.bind_ok]
    rfl
theorem filR_ok {α β : Type} {t : α → Res Bool} {f : α → Res β} {p : α → Bool} {g : α → β} : ∀ {xs : List α}, (∀ x ∈ xs, t x = .ok (p x)) → (∀ x ∈ xs, f x = .ok (g x)) → filR t f xs = .ok ((xs.filter p).map g)
  | [], _, _ => filR_nil
  | x :: xs, h, h2 => by
    rw [filR_cons, h x List.mem_cons_self, Res.bind_ok]
    have ih := filR_ok (xs := xs) (fun y hy => h y (List.mem_cons_of_mem _ hy)) fun y hy => h2 y (List.mem_cons_of_mem _ hy)
    cases hp : p x with
    | true =>
      rw [if_pos rfl, h2 x List.mem_cons_self, Res.bind_ok, ih, Res.bind_ok, List.filter_cons_of_pos hp]
      rfl
    | false =>
      rw [if_neg (by decide), ih, List.filter_cons_of_neg (by rw [hp]; decide)]
theorem lcM_ok {α β : Type} {f : α → Res β} {g : α → β} {xs : List α} (hl : xs.length ≤ 100000) (h : ∀ x ∈ xs, f x = .ok (g x)) : lcM f xs = .ok (xs.map g) := by
  unfold lcM
  rw [clo_eq]
  rw [if_pos (Nat.le_trans hl (by decide)), mapR_ok h]
theorem lcR_ok {α β : Type} {t : α → Res Bool} {f : α → Res β} {p : α → Bool} {g : α → β} {xs : List α} (hl : xs.length ≤ 100000) (h : ∀ x ∈ xs, t x = .ok (p x)) (h2 : ∀ x ∈ xs, f x = .ok (g x)) : lcR t f xs = .ok ((xs.filter p).map g) := by
  unfold lcR
  rw [clo_eq]
  rw [if_pos (Nat.le_trans hl (by decide)), filR_ok h h2]
/-! while -/
theorem fuel_eq : fuel = 100000 := clo_eq _
theorem while_n {ρ S : Type} {c : S → Res Bool} {f : S → Res (Fl ρ S)} (Iv Post : S → Prop) (μ : S → Nat) (step : ∀ s, Iv s → ∃ b, c s = .ok b ∧ (b = true → ∃ s', f s = .ok (.nx s') ∧ Iv s' ∧ μ s' < μ s) ∧ (b = false → Post s)) :
    ∀ (n : Nat) (s : S), Iv s → μ s < n → ∃ s', whileR c f n s = .ok (.fin s') ∧ Post s'
  | 0, _, _, h => absurd h (Nat.not_lt_zero _)
  | n + 1, s, hi, hm => by
    obtain ⟨b, e, h1, h2⟩ := step s hi
    rw [whileR_succ, e, Res.bind_ok]
    cases b with
    | false => exact ⟨s, by rw [if_neg (by decide)], h2 rfl⟩
    | true =>
      obtain ⟨s', e', hi', hm'⟩ := h1 rfl
      rw [if_pos rfl, e', Res.bind_ok]
      exact while_n Iv Post μ step n s' hi' (by omega)
/-- for a goal that holds of what the loop comes to -/
theorem while_use {ρ S γ : Type} {c : S → Res Bool} {f : S → Res (Fl ρ S)} {K : Lp ρ S → Res γ} {s : S} (motive : Res γ → Prop) (Iv Post : S → Prop) (μ : S → Nat) (h0 : Iv s) (hm : μ s < 100000)
    (step : ∀ s, Iv s → ∃ b, c s = .ok b ∧ (b = true → ∃ s', f s = .ok (.nx s') ∧ Iv s' ∧ μ s' < μ s) ∧ (b = false → Post s)) (h : ∀ s', Post s' → motive (K (.fin s'))) : motive ((whileR c f fuel s).bind K) := by
  rw [fuel_eq]
  obtain ⟨s', e, p⟩ := while_n Iv Post μ step 100000 s h0 hm
  rw [e, Res.bind_ok]
  exact h s' p
theorem forS_fold {α S : Type} {f : α → S → Res S} {g : S → α → S} (Iv : S → Prop) : ∀ {xs : List α} {s : S}, Iv s → (∀ x ∈ xs, ∀ s, Iv s → f x s = .ok (g s x) ∧ Iv (g s x)) → forS f xs s = .ok (xs.foldl g s) ∧ Iv (xs.foldl g s)
  | [], _, h0, _ => ⟨forS_nil, h0⟩
  | x :: xs, s, h0, h => by
    obtain ⟨e, h1⟩ := h x List.mem_cons_self s h0
    rw [forS_cons, e, Res.bind_ok]
    exact forS_fold Iv h1 fun y hy => h y (List.mem_cons_of_mem _ hy)
/-- turns over lo, lo + 1, .. : the invariant by the place -/
theorem forS_rng {S γ : Type} {f : Int → S → Res S} {K : S → Res γ} {lo n : Nat} {s : S} (motive : Res γ → Prop) (Iv : Nat → S → Prop) (hl : lo ≤ n) (h0 : Iv lo s) (step : ∀ (k : Nat) (s : S), lo ≤ k → k < n → Iv k s → ∃ s', f (k : Int) s = .ok s' ∧ Iv (k + 1) s') (h : ∀ s', Iv n s' → motive (K s')) :
    motive ((forS f (rng (lo : Int) (n : Int)) s).bind K) := by
  have main : ∀ (d k : Nat) (s : S), k + d = n → lo ≤ k → Iv k s → ∃ s', forS f ((List.range' k d).map fun (i : Nat) => (i : Int)) s = .ok s' ∧ Iv n s' := by
    intro d
    induction d with
    | zero => exact fun k s e _ hk => ⟨s, forS_nil, by have : k = n := by omega
                                                       rw [← this]; exact hk⟩
    | succ d ih =>
      intro k s e hlk hk
      obtain ⟨s1, e1, h1⟩ := step k s hlk (by omega) hk
      obtain ⟨s2, e2, h2⟩ := ih (k + 1) s1 (by omega) (by omega) h1
      refine ⟨s2, ?_, h2⟩
      rw [List.range'_succ, List.map_cons, forS_cons, e1, Res.bind_ok]
      exact e2
  have er : rng (lo : Int) (n : Int) = (List.range' lo (n - lo)).map fun (i : Nat) => (i : Int) := by
    unfold rng
    have e1 : ((n : Int) - (lo : Int)).toNat = n - lo := by omega
    rw [e1, List.range'_eq_map_range, List.map_map]
    apply List.map_congr_left
    intro i _
    show (lo : Int) + (i : Int) = ((lo + i : Nat) : Int)
    omega
  obtain ⟨s', e, hs⟩ := main (n - lo) lo s (by omega) (Nat.le_refl _) h0
  rw [er, e, Res.bind_ok]
  exact h s' hs
end M
/-! what a mirror comes to, step by step -/
namespace M
open PySem L2
def Ok {α : Type} (m : Res α) (P : α → Prop) : Prop := ∃ a, m = .ok a ∧ P a
section
variable {α β γ ρ S : Type} {P Q : α → Prop}
theorem ok_ret {a : α} (h : P a) : Ok (.ok a) P := ⟨a, rfl, h⟩
theorem ok_bind {m : Res β} {f : β → Res α} (h : Ok m fun b => Ok (f b) P) : Ok (m.bind f) P := by
  obtain ⟨b, rfl, h⟩ := h
  exact h
theorem ok_mono {m : Res α} (h : Ok m Q) (k : ∀ a, Q a → P a) : Ok m P := by
  obtain ⟨a, e, h⟩ := h
  exact ⟨a, e, k a h⟩
theorem ok_eq {m : Res α} {a : α} (e : m = .ok a) (h : P a) : Ok m P := ⟨a, e, h⟩
theorem Ok.get {m : Res α} {a : α} (h : Ok m fun x => x = a) : m = .ok a := by
  obtain ⟨b, e, rfl⟩ := h
  exact e
theorem ok_ite {c : Bool} {m n : Res α} (h : c = true → Ok m P) (k : c = false → Ok n P) : Ok (if c = true then m else n) P := by
  cases c with
  | true => rw [if_pos rfl]; exact h rfl
  | false => rw [if_neg (by decide)]; exact k rfl
theorem ok_nt {m n : Res α} (h : Ok n P) : Ok (if (!true) = true then m else n) P := h
theorem ok_nf {m n : Res α} (h : Ok m P) : Ok (if (!false) = true then m else n) P := h
theorem ok_tt {m n : Res α} (h : Ok m P) : Ok (if true = true then m else n) P := h
theorem ok_ff {m n : Res α} (h : Ok n P) : Ok (if false = true then m else n) P := h
theorem ok_modI {x y : Int} {P : Int → Prop} (h : 0 < y) (k : P (x % y)) : Ok (modI x y) P := ⟨_, modI_ok h, k⟩
theorem ok_divI {x y : Int} {P : Int → Prop} (h : 0 < y) (h2 : y < 1000000000000) (k : P (x / y)) : Ok (divI x y) P := ⟨_, divI_ok h (Int.lt_trans h2 (by decide +kernel)), k⟩
theorem small_nat {x : Int} (h : -1000000000000 < x ∧ x < 1000000000000) : x.natAbs < 2 ^ 1000 := Nat.lt_of_lt_of_le (by omega : x.natAbs < 1000000000000) (by decide +kernel)
theorem ok_mulI {x y : Int} {P : Int → Prop} (h : -1000000000000 < x ∧ x < 1000000000000) (h2 : -1000000000000 < y ∧ y < 1000000000000) (k : P (x * y)) : Ok (mulI x y) P := ⟨_, mulI_ok (small_nat h) (small_nat h2), k⟩
theorem ok_xCat {a b : Tx} {P : Tx → Prop} (h : a.length + b.length ≤ 100000) (k : P (a ++ b)) : Ok (xCat a b) P := ⟨_, xCat_ok h, k⟩
theorem ok_xRep {w : Tx} {n : Int} {P : Tx → Prop} (h0 : 0 ≤ n) (h1 : n ≤ 100000) (h2 : w.length * n.toNat ≤ 100000) (k : P (List.replicate n.toNat w).flatten) : Ok (xRep w n) P := ⟨_, xRep_ok h0 h1 h2, k⟩
theorem ok_lApp {xs : List α} {x : α} {P : List α → Prop} (h : xs.length < 100000) (k : P (xs ++ [x])) : Ok (lApp xs x) P := ⟨_, lApp_ok h, k⟩
theorem ok_lCat {xs ys : List α} {P : List α → Prop} (h : xs.length + ys.length ≤ 100000) (k : P (xs ++ ys)) : Ok (lCat xs ys) P := by
  refine ⟨xs ++ ys, ?_, k⟩
  unfold lCat
  rw [clo_eq]
  exact if_pos (Nat.le_trans h (by decide))
theorem ok_lRep {xs : List α} {n : Int} {P : List α → Prop} (h0 : 0 ≤ n) (h1 : n ≤ 100000) (h2 : xs.length * n.toNat ≤ 100000) (k : P (List.replicate n.toNat xs).flatten) : Ok (lRep xs n) P := by
  refine ⟨_, ?_, k⟩
  unfold lRep
  rw [clo_eq]
  refine if_pos ⟨by omega, by omega, Nat.le_trans h2 (by decide)⟩
theorem ok_rngR {a b : Int} {P : List Int → Prop} (h1 : -1000000000000 ≤ a ∧ a ≤ 1000000000000) (h2 : -1000000000000 ≤ b ∧ b ≤ 1000000000000) (k : P (rng a b)) : Ok (rngR a b) P := ⟨_, rngR_ok (by unfold RgOk; omega), k⟩
theorem ok_rngL {b : Int} {P : List Int → Prop} (h2 : -1000000 ≤ b ∧ b ≤ 1000000) (k : P (rng 0 b)) : Ok (rngL b) P := by
  refine ⟨_, ?_, k⟩
  unfold rngL
  rw [clo_eq]
  refine if_pos ?_
  unfold L2.RgOk
  omega
theorem ok_lGet [Inhabited α] {xs : List α} {i : Int} (h0 : 0 ≤ i) (h : i < xs.length) (k : P (xs.getD i.toNat default)) : Ok (lGet xs i) P := by
  have hl : i.toNat < xs.length := by omega
  refine ⟨_, lGet_int h0 hl, ?_⟩
  rw [List.getD_eq_getElem?_getD, List.getElem?_eq_getElem hl] at k
  exact k
theorem ok_lGetE {xs : List α} {i : Int} (h0 : 0 ≤ i) (h : i < xs.length) (k : ∀ h : i.toNat < xs.length, P xs[i.toNat]) : Ok (lGet xs i) P := ⟨_, lGet_int h0 (by omega), k _⟩
theorem ok_xGet {w : Tx} {i : Int} {P : Tx → Prop} (h0 : 0 ≤ i) (h : i < w.length) (k : P [w.getD i.toNat 0]) : Ok (xGet w i) P := by
  have hl : i.toNat < w.length := by omega
  refine ⟨_, xGet_int h0 hl, ?_⟩
  rw [List.getD_eq_getElem?_getD, List.getElem?_eq_getElem hl] at k
  exact k
theorem ok_lSet {xs : List α} {i : Int} {y : α} {P : List α → Prop} (h0 : 0 ≤ i) (h : i < xs.length) (k : P (xs.set i.toNat y)) : Ok (lSet xs i y) P := by
  have e : ((i.toNat : Nat) : Int) = i := by omega
  have q := lSet_nat (xs := xs) (k := i.toNat) (y := y) (by omega)
  rw [e] at q
  exact ⟨_, q, k⟩
theorem ok_noX {m : Res α} (h : Ok m P) : Ok (noX m) P := by
  obtain ⟨a, rfl, h⟩ := h
  exact ⟨a, rfl, h⟩
theorem ok_lcM {f : α → Res β} {g : α → β} {xs : List α} {P : List β → Prop} (hl : xs.length ≤ 100000) (h : ∀ x ∈ xs, Ok (f x) fun y => y = g x) (k : P (xs.map g)) : Ok (lcM f xs) P := ⟨_, lcM_ok hl fun x hx => (h x hx).get, k⟩
theorem ok_lcR {t : α → Res Bool} {f : α → Res β} {p : α → Bool} {g : α → β} {xs : List α} {P : List β → Prop} (hl : xs.length ≤ 100000) (h : ∀ x ∈ xs, Ok (t x) fun y => y = p x) (h2 : ∀ x ∈ xs, Ok (f x) fun y => y = g x)
    (k : P ((xs.filter p).map g)) : Ok (lcR t f xs) P := ⟨_, lcR_ok hl (fun x hx => (h x hx).get) fun x hx => (h2 x hx).get, k⟩
theorem rng_nil {a b : Int} (h : b ≤ a) : rng a b = [] := by
  unfold rng
  have : (b - a).toNat = 0 := by omega
  rw [this]
  rfl
theorem rng_cons {a b : Int} (h : a < b) : rng a b = a :: rng (a + 1) b := by
  unfold rng
  obtain ⟨n, hn⟩ : ∃ n, (b - a).toNat = n + 1 := ⟨(b - a).toNat - 1, by omega⟩
  have h2 : (b - (a + 1)).toNat = n := by omega
  rw [hn, h2, List.range_succ_eq_map, List.map_cons, List.map_map]
  congr 1
  · simp
  · apply List.map_congr_left
    intro i _
    simp
    omega
/-- a loop over lo, lo + 1, .. -/
theorem ok_forS {f : Int → S → Res S} {b : Int} {P : S → Prop} (Iv : Int → S → Prop) {a : Int} {s : S} (hab : a ≤ b) (h0 : Iv a s) (step : ∀ k s, a ≤ k → k < b → Iv k s → Ok (f k s) (Iv (k + 1))) (post : ∀ s, Iv b s → P s) : Ok (forS f (rng a b) s) P := by
  have main : ∀ (n : Nat) (k : Int) (s : S), a ≤ k → k + n = b → Iv k s → Ok (forS f (rng k b) s) P := by
    intro n
    induction n with
    | zero =>
      intro k s _ e i
      rw [rng_nil (by omega)]
      have : k = b := by omega
      subst this
      exact ⟨s, forS_nil, post s i⟩
    | succ n ih =>
      intro k s h1 e i
      obtain ⟨s', e', i'⟩ := step k s h1 (by omega) i
      rw [rng_cons (by omega), forS_cons, e', Res.bind_ok]
      exact ih (k + 1) s' (by omega) (by omega) i'
  exact main (b - a).toNat a s (Int.le_refl _) (by omega) h0
/-- the same by natural numbers -/
theorem ok_forN {f : Int → S → Res S} {P : S → Prop} (Iv : Nat → S → Prop) {a b : Nat} {s : S} (hab : a ≤ b) (h0 : Iv a s) (step : ∀ (k : Nat) s, a ≤ k → k < b → Iv k s → Ok (f (k : Int) s) (Iv (k + 1))) (post : ∀ s, Iv b s → P s) : Ok (forS f (rng (a : Int) (b : Int)) s) P := by
  refine ok_forS (fun k s => Iv k.toNat s) (by omega) (by simpa using h0) (fun k s h1 h2 i => ?_) (fun s i => post s (by simpa using i))
  obtain ⟨n, rfl⟩ : ∃ n : Nat, k = (n : Int) := ⟨k.toNat, by omega⟩
  have e : ((n : Int) + 1).toNat = n + 1 := by omega
  rw [e]
  rw [Int.toNat_natCast] at i
  exact step n s (by omega) (by omega) i
/-- a loop over any list -/
theorem ok_forL {f : α → S → Res S} {P : S → Prop} (Iv : List α → S → Prop) {xs : List α} {s : S} (h0 : Iv xs s) (step : ∀ x ys s, Iv (x :: ys) s → Ok (f x s) (Iv ys)) (post : ∀ s, Iv [] s → P s) : Ok (forS f xs s) P := by
  induction xs generalizing s with
  | nil => exact ⟨s, forS_nil, post s h0⟩
  | cons x xs ih =>
    obtain ⟨s', e, i⟩ := step x xs s h0
    rw [forS_cons, e, Res.bind_ok]
    exact ih i
/-- a loop over any list: what is done so far -/
theorem ok_forA {f : α → S → Res S} {P : S → Prop} (Iv : List α → S → Prop) {xs : List α} {s : S} (h0 : Iv [] s) (step : ∀ done x rest s, xs = done ++ x :: rest → Iv done s → Ok (f x s) (Iv (done ++ [x]))) (post : ∀ s, Iv xs s → P s) : Ok (forS f xs s) P := by
  have main : ∀ (rest done : List α) (s : S), xs = done ++ rest → Iv done s → Ok (forS f rest s) P := by
    intro rest
    induction rest with
    | nil =>
      intro done s e i
      rw [List.append_nil] at e
      subst e
      exact ⟨s, forS_nil, post s i⟩
    | cons x rest ih =>
      intro done s e i
      obtain ⟨s', e', i'⟩ := step done x rest s e i
      rw [forS_cons, e', Res.bind_ok]
      exact ih (done ++ [x]) s' (by rw [e]; simp) i'
  exact main xs [] s rfl h0
/-- with an early way out -/
def Flw (N : S → Prop) (B : S → Prop) (R : ρ → Prop) : Fl ρ S → Prop
  | .nx s => N s
  | .bk s => B s
  | .rt r => R r
def Lpw (N : S → Prop) (R : ρ → Prop) : Lp ρ S → Prop
  | .fin s => N s
  | .ret r => R r
theorem ok_forR {f : Int → S → Res (Fl ρ S)} {b : Int} {P : Lp ρ S → Prop} (Iv : Int → S → Prop) (B : S → Prop) (R : ρ → Prop) {a : Int} {s : S} (hab : a ≤ b) (h0 : Iv a s) (step : ∀ k s, a ≤ k → k < b → Iv k s → Ok (f k s) (Flw (Iv (k + 1)) B R))
    (post : ∀ s, Iv b s → P (.fin s)) (brk : ∀ s, B s → P (.fin s)) (ret : ∀ r, R r → P (.ret r)) : Ok (forR f (rng a b) s) P := by
  have main : ∀ (n : Nat) (k : Int) (s : S), a ≤ k → k + n = b → Iv k s → Ok (forR f (rng k b) s) P := by
    intro n
    induction n with
    | zero =>
      intro k s _ e i
      rw [rng_nil (by omega)]
      have : k = b := by omega
      subst this
      exact ⟨.fin s, forR_nil, post s i⟩
    | succ n ih =>
      intro k s h1 e i
      obtain ⟨y, e', i'⟩ := step k s h1 (by omega) i
      rw [rng_cons (by omega), forR_cons, e', Res.bind_ok]
      cases y with
      | nx s' => exact ih (k + 1) s' (by omega) (by omega) i'
      | bk s' => exact ⟨_, rfl, brk s' i'⟩
      | rt r => exact ⟨_, rfl, ret r i'⟩
  exact main (b - a).toNat a s (Int.le_refl _) (by omega) h0
theorem ok_forRN {f : Int → S → Res (Fl ρ S)} {P : Lp ρ S → Prop} (Iv : Nat → S → Prop) (B : S → Prop) (R : ρ → Prop) {a b : Nat} {s : S} (hab : a ≤ b) (h0 : Iv a s) (step : ∀ (k : Nat) s, a ≤ k → k < b → Iv k s → Ok (f (k : Int) s) (Flw (Iv (k + 1)) B R))
    (post : ∀ s, Iv b s → P (.fin s)) (brk : ∀ s, B s → P (.fin s)) (ret : ∀ r, R r → P (.ret r)) : Ok (forR f (rng (a : Int) (b : Int)) s) P := by
  refine ok_forR (fun k s => Iv k.toNat s) B R (by omega) (by simpa using h0) (fun k s h1 h2 i => ?_) (fun s i => post s (by simpa using i)) brk ret
  obtain ⟨n, rfl⟩ : ∃ n : Nat, k = (n : Int) := ⟨k.toNat, by omega⟩
  have e : ((n : Int) + 1).toNat = n + 1 := by omega
  rw [e]
  rw [Int.toNat_natCast] at i
  exact step n s (by omega) (by omega) i
theorem ok_forRL {f : α → S → Res (Fl ρ S)} {P : Lp ρ S → Prop} (Iv : List α → S → Prop) (B : S → Prop) (R : ρ → Prop) {xs : List α} {s : S} (h0 : Iv xs s) (step : ∀ x ys s, Iv (x :: ys) s → Ok (f x s) (Flw (Iv ys) B R))
    (post : ∀ s, Iv [] s → P (.fin s)) (brk : ∀ s, B s → P (.fin s)) (ret : ∀ r, R r → P (.ret r)) : Ok (forR f xs s) P := by
  induction xs generalizing s with
  | nil => exact ⟨.fin s, forR_nil, post s h0⟩
  | cons x xs ih =>
    obtain ⟨y, e, i⟩ := step x xs s h0
    rw [forR_cons, e, Res.bind_ok]
    cases y with
    | nx s' => exact ih i
    | bk s' => exact ⟨_, rfl, brk s' i⟩
    | rt r => exact ⟨_, rfl, ret r i⟩
/-- while: an invariant and a measure -/
theorem ok_while {c : S → Res Bool} {f : S → Res (Fl ρ S)} {P : Lp ρ S → Prop} (Iv : S → Prop) (μ : S → Nat) {s : S} (h0 : Iv s) (hm : μ s < 100000) (cond : ∀ s, Iv s → Ok (c s) fun b => (b = true → Ok (f s) (Flw (fun s' => Iv s' ∧ μ s' < μ s) (fun s' => P (.fin s')) (fun r => P (.ret r)))) ∧ (b = false → P (.fin s))) : Ok (whileR c f fuel s) P := by
  rw [fuel_eq]
  have main : ∀ (n : Nat) (s : S), Iv s → μ s < n → Ok (whileR c f n s) P := by
    intro n
    induction n with
    | zero => exact fun s _ h => absurd h (Nat.not_lt_zero _)
    | succ n ih =>
      intro s i hm
      obtain ⟨b, e, h1, h2⟩ := cond s i
      rw [whileR_succ, e, Res.bind_ok]
      cases b with
      | false => exact ⟨_, by rw [if_neg (by decide)], h2 rfl⟩
      | true =>
        obtain ⟨y, e', i'⟩ := h1 rfl
        rw [if_pos rfl, e', Res.bind_ok]
        cases y with
        | nx s' => exact ih s' i'.1 (by have := i'.2; omega)
        | bk s' => exact ⟨_, rfl, i'⟩
        | rt r => exact ⟨_, rfl, i'⟩
  exact main _ s h0 hm
theorem ok_whileP {c : S → Res Bool} {f : S → Res (Fl ρ S)} {P : Lp ρ S → Prop} (Iv Post : S → Prop) (μ : S → Nat) {s : S} (h0 : Iv s) (hm : μ s < 100000) (cond : ∀ s, Iv s → Ok (c s) fun b => (b = true → Ok (f s) (Flw (fun s' => Iv s' ∧ μ s' < μ s) Post (fun _ => False))) ∧ (b = false → Post s))
    (post : ∀ s, Post s → P (.fin s)) : Ok (whileR c f fuel s) P := by
  refine ok_while Iv μ h0 hm fun s i => ?_
  refine ok_mono (cond s i) fun b h => ⟨fun e => ok_mono (h.1 e) fun y hy => ?_, fun e => post s (h.2 e)⟩
  cases y with
  | nx s' => exact hy
  | bk s' => exact post s' hy
  | rt r => exact hy.elim
/-! slices by whole numbers -/
theorem cutI {xs : List α} {i j : Int} (hi : 0 ≤ i) (hj : 0 ≤ j) : cutL xs (some i) (some j) = (xs.drop i.toNat).take (j.toNat - i.toNat) := by
  have e1 : ((i.toNat : Nat) : Int) = i := by omega
  have e2 : ((j.toNat : Nat) : Int) = j := by omega
  have := cut_mid xs i.toNat j.toNat
  rw [e1, e2] at this
  exact this
theorem cutTo {xs : List α} {j : Int} (hj : 0 ≤ j) : cutL xs none (some j) = xs.take j.toNat := by
  have e2 : ((j.toNat : Nat) : Int) = j := by omega
  have := cut_to xs j.toNat
  rw [e2] at this
  exact this
theorem cutFrom {xs : List α} {j : Int} (hj : 0 ≤ j) : cutL xs (some j) none = xs.drop j.toNat := by
  have e2 : ((j.toNat : Nat) : Int) = j := by omega
  have := cut_from xs j.toNat
  rw [e2] at this
  exact this
end
/-! whole and natural numbers -/
theorem tn_c (a : Nat) : ((a : Nat) : Int).toNat = a := Int.toNat_natCast a
theorem tn_add (a b : Nat) : ((a : Int) + (b : Int)).toNat = a + b := by omega
theorem tn_add1 (a : Nat) : ((a : Int) + 1).toNat = a + 1 := by omega
theorem tn_sub (a b : Nat) : ((a : Int) - (b : Int)).toNat = a - b := by omega
theorem tn_sub1 (a : Nat) : ((a : Int) - 1).toNat = a - 1 := by omega
theorem sing {a b : Nat} : ([a] : Tx) = [b] ↔ a = b := by simp
end M
namespace G
open PySem M
def is_NoPeriod (e : Exn) : Res Bool := if e.cls = "OutOfBounds" then .ok false else if e.cls = "TooMany" then .ok false else if e.cls = "NoPeriod" then .ok true else .bad
def is_OutOfBounds (e : Exn) : Res Bool := if e.cls = "OutOfBounds" then .ok true else if e.cls = "TooMany" then .ok false else if e.cls = "NoPeriod" then .ok false else .bad
def is_TooMany (e : Exn) : Res Bool := if e.cls = "OutOfBounds" then .ok false else if e.cls = "TooMany" then .ok true else if e.cls = "NoPeriod" then .ok false else .bad
def is_ValueError (e : Exn) : Res Bool := if e.cls = "OutOfBounds" then .ok true else if e.cls = "TooMany" then .ok true else if e.cls = "NoPeriod" then .ok true else .bad
def kn_WordError (e : Exn) : Bool := decide (e.cls = "OutOfBounds") || decide (e.cls = "TooMany") || decide (e.cls = "NoPeriod")
noncomputable def m_check_range (value : Int) (low : Int) (high : Int) : Res Unit :=
  (if ((decide (value < low)) || (decide (value > high))) = true then .exc ⟨"OutOfBounds", [("value", enc value)]⟩ else .ok ())

noncomputable def m_check_many (things : (SeqL Int)) (most : Int) : Res Unit :=
  (if (decide (((things.l.length : Nat) : Int) > most)) = true then .exc ⟨"TooMany", [("most", enc most)]⟩ else .ok ())

noncomputable def m_check_periods (periods : (SeqL Int)) : Res Unit :=
  Res.bind (m_check_many periods (6 : Int)) fun (t1 : Unit) => Res.bind (forS (fun (period : Int) (s : Unit) => Res.bind (m_check_range period (1 : Int) (1000000000000000000 : Int)) fun (t3 : Unit) => .ok ()) periods.l ()) fun (s : Unit) => .ok ()

noncomputable def m_require_period (periods : (SeqL Int)) : Res Unit :=
  (if (decide (((periods.l.length : Nat) : Int) = (0 : Int))) = true then .exc ⟨"NoPeriod", []⟩ else .ok ())

noncomputable def m_rounds (rows : (List Int)) : Res Int :=
  Res.bind (lGet rows (0 : Int)) fun (least : Int) => Res.bind (lcR (fun (period : Int) => Res.bind (Res.bind (modI period least) fun (t2 : Int) => (.ok (!decide (t2 = (0 : Int))))) fun (b3 : Bool) => .ok b3) (fun (period : Int) => Res.bind (divI period least) fun (t1 : Int) => .ok t1) rows) fun (ys4 : List Int) => .ok (minDf (0 : Int) ys4)

noncomputable def m_lessened (rows : (List Int)) (rounds : Int) : Res (List Int) :=
  Res.bind (lGet rows (0 : Int)) fun (least : Int) => Res.bind (mulI rounds least) fun (taken : Int) => Res.bind (lcR (fun (period : Int) => .ok (decide (period > taken))) (fun (period : Int) => .ok (period - taken)) rows) fun (ys1 : List Int) => Res.bind (lCat [least] ys1) fun (t2 : (List Int)) => Res.bind (lSortU (SeqL.mk t2).l) fun (t3 : List Int) => .ok t3

noncomputable def m_classes (rows : (List Int)) (length : Int) : Res Int :=
  Res.bind (.ok (0 : Int)) fun (added : Int) => Res.bind (whileR (fun (s : (List Int) × Int × Int) => match s with | (rows, length, added) => Res.bind (Res.bind (lGet rows (0 : Int)) fun (t1 : Int) => (.ok (decide (length > t1)))) fun (b2 : Bool) => .ok b2) (fun (s : (List Int) × Int × Int) => match s with | (rows, length, added) => Res.bind (lGet rows (0 : Int)) fun (least : Int) => Res.bind (m_rounds rows) fun (t3 : Int) => (if (decide (t3 = (0 : Int))) = true then .ok (.rt (added + least)) else Res.bind (Res.bind (mulI (2 : Int) least) fun (t4 : Int) => (.ok (decide (length < t4)))) fun b10 => Res.bind (if b10 = true then Res.bind (Res.bind (Res.bind (mulI (2 : Int) least) fun (t5 : Int) => (.ok (t5 - length))) fun (t6 : Int) => .ok (added + t6)) fun (added : Int) => Res.bind (.ok (1 : Int)) fun (rounds : Int) => .ok (added, rounds) else Res.bind (Res.bind (.ok t3) fun (t8 : Int) => Res.bind (Res.bind (divI length least) fun (t7 : Int) => (.ok (t7 - (1 : Int)))) fun (t9 : Int) => .ok (min t8 t9)) fun (rounds : Int) => .ok (added, rounds)) fun (s : Int × Int) => match s with | (added, rounds) => Res.bind (m_lessened rows rounds) fun (t11 : (List Int)) => Res.bind (Res.bind (mulI rounds least) fun (t12 : Int) => .ok (length - t12)) fun (length : Int) => .ok (.nx (t11, length, added)))) fuel (rows, length, added)) fun (y : Lp Int ((List Int) × Int × Int)) => match y with | .ret r => .ok r | .fin s => match s with | (rows, length, added) => .ok (added + length)

noncomputable def m_class_count (periods : (SeqL Int)) (length : Int) : Res Int :=
  Res.bind (m_check_periods periods) fun (t1 : Unit) => Res.bind (m_check_range length (0 : Int) (1000000000000000000 : Int)) fun (t2 : Unit) => Res.bind (m_require_period periods) fun (t3 : Unit) => Res.bind (lSortU periods.l) fun (t4 : List Int) => Res.bind (m_classes t4 length) fun (t5 : Int) => .ok t5

noncomputable def m_class_at (rows : (List Int)) (length : Int) (place : Int) : Res Int :=
  Res.bind (whileR (fun (s : (List Int) × Int × Int) => match s with | (rows, length, place) => Res.bind (Res.bind (lGet rows (0 : Int)) fun (t1 : Int) => (.ok (decide (length > t1)))) fun (b2 : Bool) => .ok b2) (fun (s : (List Int) × Int × Int) => match s with | (rows, length, place) => Res.bind (lGet rows (0 : Int)) fun (least : Int) => Res.bind (modI place least) fun (place : Int) => Res.bind (m_rounds rows) fun (t3 : Int) => (if (decide (t3 = (0 : Int))) = true then .ok (.rt place) else Res.bind (Res.bind (mulI (2 : Int) least) fun (t4 : Int) => (.ok (decide (length < t4)))) fun b5 => (if b5 = true then Res.bind (.ok (length - least)) fun (border : Int) => Res.bind (.ok (1 : Int)) fun (rounds : Int) => (if (decide (place ≥ border)) = true then Res.bind (m_lessened rows rounds) fun (t6 : (List Int)) => Res.bind (m_classes t6 border) fun (t7 : Int) => Res.bind (.ok (t7 + place)) fun (t8 : Int) => Res.bind (.ok (t8 - border)) fun (t9 : Int) => .ok (.rt t9) else Res.bind (m_lessened rows rounds) fun (t10 : (List Int)) => Res.bind (Res.bind (mulI rounds least) fun (t11 : Int) => .ok (length - t11)) fun (length : Int) => .ok (.nx (t10, length, place))) else Res.bind (Res.bind (.ok t3) fun (t13 : Int) => Res.bind (Res.bind (divI length least) fun (t12 : Int) => (.ok (t12 - (1 : Int)))) fun (t14 : Int) => .ok (min t13 t14)) fun (rounds : Int) => Res.bind (m_lessened rows rounds) fun (t15 : (List Int)) => Res.bind (Res.bind (mulI rounds least) fun (t16 : Int) => .ok (length - t16)) fun (length : Int) => .ok (.nx (t15, length, place))))) fuel (rows, length, place)) fun (y : Lp Int ((List Int) × Int × Int)) => match y with | .ret r => .ok r | .fin s => match s with | (rows, length, place) => .ok place

noncomputable def m_class_of (periods : (SeqL Int)) (length : Int) (place : Int) : Res Int :=
  Res.bind (m_check_periods periods) fun (t1 : Unit) => Res.bind (m_check_range length (0 : Int) (1000000000000000000 : Int)) fun (t2 : Unit) => Res.bind (m_check_range place (0 : Int) (length - (1 : Int))) fun (t3 : Unit) => Res.bind (m_require_period periods) fun (t4 : Unit) => Res.bind (lSortU periods.l) fun (t5 : List Int) => Res.bind (m_class_at t5 length place) fun (t6 : Int) => .ok t6

noncomputable def m_law_dig (cells : (List Int)) (place : Int) (sizes : (List Int)) : Res (List Int) :=
  Res.bind (.ok (0 : Int)) fun (cell : Int) => Res.bind (if (decide (place < ((cells.length : Nat) : Int))) = true then Res.bind (lGet cells place) fun (cell : Int) => .ok cell else .ok cell) fun (s : Int) => match s with | cell => Res.bind (.ok (if cell < 0 then -cell else cell)) fun (left : Int) => Res.bind (.ok ([] : List Int)) fun (row : (List Int)) => Res.bind (rngR 0 ((sizes.length : Nat) : Int)) fun xs1 => Res.bind (forS (fun (k_ : Int) (s : Int × (List Int)) => match s with | (left, row) => Res.bind (if (decide ((if cell < 0 then -cell else cell) < (1000000000000000000 : Int))) = true then Res.bind (Res.bind (Res.bind (Res.bind (Res.bind (Res.bind (mulI cell (48271 : Int)) fun (t2 : Int) => Res.bind (mulI place (8191 : Int)) fun (t3 : Int) => (.ok (t2 + t3))) fun (t4 : Int) => Res.bind (mulI k_ (69621 : Int)) fun (t5 : Int) => (.ok (t4 + t5))) fun (t6 : Int) => (.ok (t6 + (40692 : Int)))) fun (t7 : Int) => .ok t7) fun (t8 : Int) => (modI t8 (2147483647 : Int))) fun (mixed : Int) => Res.bind (Res.bind (Res.bind (Res.bind (Res.bind (Res.bind (mulI mixed mixed) fun (t9 : Int) => Res.bind (mulI k_ (16807 : Int)) fun (t10 : Int) => (.ok (t9 + t10))) fun (t11 : Int) => (.ok (t11 + place))) fun (t12 : Int) => .ok t12) fun (t13 : Int) => (modI t13 (998244353 : Int))) fun (t14 : Int) => (divI t14 (8 : Int))) fun (left : Int) => .ok left else .ok left) fun (s : Int) => match s with | left => Res.bind (Res.bind (lGet sizes k_) fun (t16 : Int) => (modI left t16)) fun (t17 : Int) => Res.bind (lApp row t17) fun (row : (List Int)) => Res.bind (Res.bind (lGet sizes k_) fun (t18 : Int) => (divI left t18)) fun (left : Int) => .ok (left, row)) xs1 (left, row)) fun (s : Int × (List Int)) => match s with | (left, row) => .ok row

noncomputable def m_law_number (told : Int) (due : Int) : Res Bool :=
  .ok (true && ((!false) && (decide (told = due))))

noncomputable def m_law_closing (periods : (List Int)) (n : Int) : Res (List Int) :=
  Res.bind (.ok n) fun (t1 : Int) => Res.bind (rngL t1) fun (t2 : List Int) => Res.bind (forS (fun (p : Int) (s : (List Int)) => match s with | marks => Res.bind (rngR 0 (n - p)) fun xs3 => Res.bind (forS (fun (t : Int) (s : (List Int)) => match s with | marks => Res.bind (Res.bind (lGet marks t) fun (t4 : Int) => Res.bind (lGet marks (t + p)) fun (t5 : Int) => (.ok (!decide (t4 = t5)))) fun b11 => Res.bind (if b11 = true then Res.bind (Res.bind (lGet marks t) fun (t6 : Int) => Res.bind (lGet marks (t + p)) fun (t7 : Int) => .ok (min t6 t7)) fun (low : Int) => Res.bind (Res.bind (lGet marks t) fun (t8 : Int) => Res.bind (lGet marks (t + p)) fun (t9 : Int) => .ok (max t8 t9)) fun (high : Int) => Res.bind (lcM (fun (mark : Int) => .ok (if (decide (mark = high)) = true then low else mark)) marks) fun (ys10 : List Int) => .ok ys10 else .ok marks) fun (s : (List Int)) => match s with | marks => .ok marks) xs3 marks) fun (s : (List Int)) => match s with | marks => .ok marks) periods t2) fun (s : (List Int)) => match s with | marks => .ok marks

noncomputable def m_law_firsts (marks : (List Int)) : Res (List Int) :=
  Res.bind (rngR 0 ((marks.length : Nat) : Int)) fun xs1 => Res.bind (lcR (fun (t : Int) => Res.bind (Res.bind (lGet marks t) fun (t2 : Int) => (.ok (decide (t2 = t)))) fun (b3 : Bool) => .ok b3) (fun (t : Int) => .ok t) xs1) fun (ys4 : List Int) => .ok ys4

noncomputable def m_law_below (firsts : (List Int)) (first : Int) : Res Int :=
  Res.bind (lcR (fun (t : Int) => .ok (decide (t < first))) (fun (t : Int) => .ok t) firsts) fun (ys1 : List Int) => .ok ((ys1.length : Nat) : Int)

noncomputable def m_law_table (periods : (List Int)) (n : Int) (m : Int) (more : Int) : Res (ML4 Int Int (List Int) (List Int)) :=
  Res.bind (m_law_closing periods n) fun (t1 : (List Int)) => Res.bind (m_law_closing periods (n + (1 : Int))) fun (t2 : (List Int)) => .ok (ML4.mk m more t1 t2)

noncomputable def m_law_total (tab : (ML4 Int Int (List Int) (List Int))) : Res Int :=
  Res.bind (m_law_firsts tab.c) fun (t1 : (List Int)) => Res.bind (.ok ((t1.length : Nat) : Int)) fun (less : Int) => Res.bind (mulI tab.a less) fun (t2 : Int) => Res.bind (m_law_firsts tab.d) fun (t3 : (List Int)) => Res.bind (.ok (((t3.length : Nat) : Int) - less)) fun (t4 : Int) => Res.bind (mulI tab.b t4) fun (t5 : Int) => Res.bind (.ok (t2 + t5)) fun (t6 : Int) => .ok t6

noncomputable def m_law_code (tab : (ML4 Int Int (List Int) (List Int))) (place : Int) : Res Int :=
  Res.bind (.ok tab.a) fun (m : Int) => Res.bind (.ok tab.b) fun (more : Int) => Res.bind (modI place m) fun (turn : Int) => Res.bind (if (decide (turn < more)) = true then .ok tab.d else .ok tab.c) fun (s : (List Int)) => match s with | marks => Res.bind (Res.bind (divI place m) fun (t1 : Int) => lGet marks t1) fun (first : Int) => Res.bind (m_law_firsts tab.c) fun (t2 : (List Int)) => Res.bind (m_law_firsts tab.d) fun (t3 : (List Int)) => Res.bind (m_law_below t2 first) fun (t4 : Int) => Res.bind (mulI (m - more) t4) fun (t5 : Int) => Res.bind (m_law_below t3 first) fun (t6 : Int) => Res.bind (mulI more t6) fun (t7 : Int) => Res.bind (.ok (t5 + t7)) fun (t8 : Int) => Res.bind (Res.bind (.ok first) fun (t9 : Int) => .ok (decide (t9 ∈ t3))) fun b10 => Res.bind (if b10 = true then Res.bind (.ok (t8 + (min turn more))) fun (code : Int) => .ok code else .ok t8) fun (s : Int) => match s with | code => Res.bind (Res.bind (.ok first) fun (t11 : Int) => .ok (decide (t11 ∈ t2))) fun b12 => Res.bind (if b12 = true then Res.bind (.ok (code + (max (0 : Int) (turn - more)))) fun (code : Int) => .ok code else .ok code) fun (s : Int) => match s with | code => .ok code

noncomputable def m_law_class (tab : (ML4 Int Int (List Int) (List Int))) (steps : (List (List Int))) (place : Int) : Res Int :=
  Res.bind (.ok place) fun (left : Int) => Res.bind (forR (fun (step : (List Int)) (s : Int) => match s with | left => Res.bind (Res.bind (lGet step (0 : Int)) fun (t1 : Int) => (modI left t1)) fun (left : Int) => Res.bind (Res.bind (lGet step (1 : Int)) fun (t2 : Int) => (.ok (decide (left ≥ t2)))) fun b3 => (if b3 = true then Res.bind (Res.bind (Res.bind (lGet step (2 : Int)) fun (t4 : Int) => (.ok (t4 + left))) fun (t5 : Int) => Res.bind (lGet step (1 : Int)) fun (t6 : Int) => (.ok (t5 - t6))) fun (t7 : Int) => .ok (.rt t7) else .ok (.nx left))) (List.reverse steps) left) fun (y : Lp Int Int) => match y with | .ret r => .ok r | .fin s => match s with | left => Res.bind (m_law_code tab left) fun (t9 : Int) => .ok t9

noncomputable def m_law_led_on (cells : (List Int)) (periods : (List Int)) (n : Int) (total : Int) (rounds : Int) : Res (ML4 (List Int) Int Int (List (List Int))) :=
  Res.bind (.ok n) fun (size : Int) => Res.bind (.ok total) fun (count : Int) => Res.bind (.ok ([] : List (List Int))) fun (steps : (List (List Int))) => Res.bind (rngR 0 rounds) fun xs1 => Res.bind (forS (fun (k_ : Int) (s : (List Int) × Int × Int × (List (List Int))) => match s with | (rows, size, count, steps) => Res.bind (m_law_dig cells ((10 : Int) + k_) [((rows.length : Nat) : Int), (2 : Int), (1000000000 : Int), (1000000000 : Int)]) fun (t2 : (List Int)) => Res.bind (Res.bind (lGet t2 (0 : Int)) fun (t3 : Int) => lGet rows t3) fun (p : Int) => Res.bind (lCat rows [size]) fun (t5 : (List Int)) => Res.bind (maxI t5) fun (t6 : Int) => Res.bind (.ok ((1000000000000000000 : Int) - t6)) fun (t7 : Int) => Res.bind (divI t7 p) fun (t8 : Int) => Res.bind (if (decide (t8 > (0 : Int))) = true then Res.bind (Res.bind (Res.bind (Res.bind (Res.bind (lGet t2 (2 : Int)) fun (t9 : Int) => (mulI t9 (1000000000 : Int))) fun (t10 : Int) => Res.bind (lGet t2 (3 : Int)) fun (t11 : Int) => (.ok (t10 + t11))) fun (t12 : Int) => (modI t12 t8)) fun (t13 : Int) => (.ok ((1 : Int) + t13))) fun (m : Int) => Res.bind (Res.bind (lGet t2 (1 : Int)) fun (t14 : Int) => (.ok (decide (t14 = (0 : Int))))) fun b17 => Res.bind (if b17 = true then Res.bind (Res.bind (Res.bind (lGet t2 (2 : Int)) fun (t15 : Int) => (modI t15 (min t8 (3 : Int)))) fun (t16 : Int) => (.ok ((1 : Int) + t16))) fun (m : Int) => .ok m else .ok m) fun (s : Int) => match s with | m => Res.bind (lApp steps [p, size, count]) fun (steps : (List (List Int))) => Res.bind (.ok (count + (max (0 : Int) (p - size)))) fun (count : Int) => Res.bind (Res.bind (mulI m p) fun (t19 : Int) => (.ok (size + t19))) fun (size : Int) => Res.bind (lcM (fun (q : Int) => Res.bind (Res.bind (mulI m p) fun (t20 : Int) => (.ok (q + t20))) fun (t21 : Int) => .ok t21) rows) fun (ys22 : List Int) => Res.bind (lGet t2 (0 : Int)) fun (t23 : Int) => Res.bind (lSet ys22 t23 p) fun (rows : (List Int)) => .ok (rows, size, count, steps) else .ok (rows, size, count, steps)) fun (s : (List Int) × Int × Int × (List (List Int))) => match s with | (rows, size, count, steps) => .ok (rows, size, count, steps)) xs1 (periods, size, count, steps)) fun (s : (List Int) × Int × Int × (List (List Int))) => match s with | (rows, size, count, steps) => .ok (ML4.mk rows size count steps)

noncomputable def m_law_places (n : Int) (row : (List Int)) : Res (List Int) :=
  (if (decide (n ≤ (60 : Int))) = true then Res.bind (.ok n) fun (t1 : Int) => Res.bind (rngL t1) fun (t2 : List Int) => .ok t2 else Res.bind (divI n (2 : Int)) fun (t3 : Int) => Res.bind (.ok [(0 : Int), (1 : Int), (n - (1 : Int)), t3]) fun (found : (List Int)) => Res.bind (forS (fun (draw : Int) (s : (List Int)) => match s with | found => Res.bind (modI draw n) fun (t5 : Int) => Res.bind (lApp found t5) fun (found : (List Int)) => Res.bind (modI draw (60 : Int)) fun (t7 : Int) => Res.bind (lApp found t7) fun (found : (List Int)) => .ok found) row found) fun (s : (List Int)) => match s with | found => .ok found)

noncomputable def m_law_asked (handed : (SeqL Int)) (n : Int) (total : Int) (tab : (ML4 Int Int (List Int) (List Int))) (steps : (List (List Int))) (row : (List Int)) : Res Bool :=
  Res.bind (m_class_count handed n) fun (t1 : Int) => Res.bind (m_law_number t1 total) fun (t2 : Bool) => (if (!t2) = true then .ok false else Res.bind (m_law_places n row) fun (t3 : (List Int)) => Res.bind (forR (fun (at_ : Int) (s : Unit) => Res.bind (m_law_class tab steps at_) fun (t4 : Int) => Res.bind (m_class_of handed n at_) fun (t5 : Int) => Res.bind (m_law_number t5 t4) fun (t6 : Bool) => (if (!t6) = true then .ok (.rt false) else .ok (.nx ()))) t3 ()) fun (y : Lp Bool Unit) => match y with | .ret r => .ok r | .fin s => Res.bind (m_class_count handed n) fun (t8 : Int) => Res.bind (m_law_number t8 total) fun (t9 : Bool) => .ok t9)

noncomputable def m_law_two (row : (List Int)) : Res (List Int) :=
  Res.bind (Res.bind (Res.bind (Res.bind (lGet row (1 : Int)) fun (t1 : Int) => (mulI t1 (1000000000 : Int))) fun (t2 : Int) => (.ok ((1 : Int) + t2))) fun (t3 : Int) => Res.bind (lGet row (2 : Int)) fun (t4 : Int) => (.ok (t3 + t4))) fun (first : Int) => Res.bind (Res.bind (Res.bind (Res.bind (lGet row (3 : Int)) fun (t5 : Int) => (mulI t5 (1000000000 : Int))) fun (t6 : Int) => (.ok ((1 : Int) + t6))) fun (t7 : Int) => Res.bind (lGet row (4 : Int)) fun (t8 : Int) => (.ok (t7 + t8))) fun (second : Int) => Res.bind (Res.bind (lGet row (0 : Int)) fun (t9 : Int) => (.ok (decide (t9 = (1 : Int))))) fun b11 => Res.bind (if b11 = true then Res.bind (Res.bind (lGet row (5 : Int)) fun (t10 : Int) => (.ok ((first + (1 : Int)) + t10))) fun (second : Int) => .ok second else .ok second) fun (s : Int) => match s with | second => Res.bind (Res.bind (lGet row (0 : Int)) fun (t12 : Int) => (.ok (decide (t12 = (2 : Int))))) fun b15 => Res.bind (if b15 = true then Res.bind (Res.bind (Res.bind (lGet row (5 : Int)) fun (t13 : Int) => (.ok ((2 : Int) + t13))) fun (t14 : Int) => (mulI first t14)) fun (second : Int) => .ok second else .ok second) fun (s : Int) => match s with | second => Res.bind (Res.bind (lGet row (0 : Int)) fun (t16 : Int) => (.ok (decide (t16 = (3 : Int))))) fun b25 => Res.bind (if b25 = true then Res.bind (Res.bind (Res.bind (lGet row (1 : Int)) fun (t17 : Int) => (.ok ((1 : Int) + t17))) fun (t19 : Int) => Res.bind (Res.bind (lGet row (2 : Int)) fun (t18 : Int) => (.ok ((1 : Int) + t18))) fun (t20 : Int) => (mulI t19 t20)) fun (first : Int) => Res.bind (Res.bind (Res.bind (lGet row (3 : Int)) fun (t21 : Int) => (.ok ((1 : Int) + t21))) fun (t23 : Int) => Res.bind (Res.bind (lGet row (2 : Int)) fun (t22 : Int) => (.ok ((1 : Int) + t22))) fun (t24 : Int) => (mulI t23 t24)) fun (second : Int) => .ok (first, second) else .ok (first, second)) fun (s : Int × Int) => match s with | (first, second) => Res.bind (if (decide (second > (1000000000000000000 : Int))) = true then Res.bind (.ok first) fun (second : Int) => .ok second else .ok second) fun (s : Int) => match s with | second => .ok [(min first second), (max first second)]

noncomputable def m_law_gcd (first : Int) (second : Int) : Res Int :=
  Res.bind (.ok first) fun (a_ : Int) => Res.bind (.ok second) fun (b_ : Int) => Res.bind (rngR 0 (100 : Int)) fun xs1 => Res.bind (forS (fun (k_ : Int) (s : Int × Int) => match s with | (a_, b_) => Res.bind (if (!decide (b_ = (0 : Int))) = true then Res.bind (modI a_ b_) fun (rest_ : Int) => Res.bind (.ok b_) fun (a_ : Int) => Res.bind (.ok rest_) fun (b_ : Int) => .ok (a_, b_) else .ok (a_, b_)) fun (s : Int × Int) => match s with | (a_, b_) => .ok (a_, b_)) xs1 (a_, b_)) fun (s : Int × Int) => match s with | (a_, b_) => .ok a_

noncomputable def m_law_two_asked (low : Int) (high : Int) (draw : Int) : Res Bool :=
  Res.bind (m_law_gcd low high) fun (t1 : Int) => Res.bind (.ok ((low + high) - t1)) fun (most : Int) => Res.bind (.ok [(low - (1 : Int)), low, (low + (1 : Int)), high, (high + (1 : Int))]) fun (lengths : (List Int)) => Res.bind (lCat lengths [(most - (1 : Int)), most, (1000000000000000000 : Int), draw]) fun (t2 : (List Int)) => Res.bind (forR (fun (n : Int) (s : Unit) => Res.bind (.ok t1) fun (due : Int) => Res.bind (if (decide (n < most)) = true then Res.bind (.ok ((low + high) - n)) fun (due : Int) => .ok due else .ok due) fun (s : Int) => match s with | due => Res.bind (if ((decide (n ≤ high)) || (decide (t1 = low))) = true then Res.bind (.ok (min n low)) fun (due : Int) => .ok due else .ok due) fun (s : Int) => match s with | due => (if ((decide ((0 : Int) ≤ n)) && (decide (n ≤ (1000000000000000000 : Int)))) = true then Res.bind (m_class_count (SeqL.mk [high, low]) n) fun (t3 : Int) => Res.bind (m_law_number t3 due) fun (t4 : Bool) => (if (!t4) = true then .ok (.rt false) else (if ((decide ((0 : Int) < n)) && ((decide (n ≤ (1000000000000000000 : Int))) && ((decide (due = t1)) || (decide (n ≤ high))))) = true then Res.bind (modI draw n) fun (t5 : Int) => Res.bind (modI draw (min n (low + (7 : Int)))) fun (t6 : Int) => Res.bind (forR (fun (at_ : Int) (s : Unit) => Res.bind (m_class_of (SeqL.mk [low, high]) n at_) fun (t7 : Int) => Res.bind (modI at_ due) fun (t8 : Int) => Res.bind (m_law_number t7 t8) fun (t9 : Bool) => (if (!t9) = true then .ok (.rt false) else .ok (.nx ()))) [(0 : Int), (n - (1 : Int)), t5, t6] ()) fun (y : Lp Bool Unit) => match y with | .ret r => .ok (.rt r) | .fin s => .ok (.nx ()) else .ok (.nx ()))) else (if ((decide ((0 : Int) < n)) && ((decide (n ≤ (1000000000000000000 : Int))) && ((decide (due = t1)) || (decide (n ≤ high))))) = true then Res.bind (modI draw n) fun (t11 : Int) => Res.bind (modI draw (min n (low + (7 : Int)))) fun (t12 : Int) => Res.bind (forR (fun (at_ : Int) (s : Unit) => Res.bind (m_class_of (SeqL.mk [low, high]) n at_) fun (t13 : Int) => Res.bind (modI at_ due) fun (t14 : Int) => Res.bind (m_law_number t13 t14) fun (t15 : Bool) => (if (!t15) = true then .ok (.rt false) else .ok (.nx ()))) [(0 : Int), (n - (1 : Int)), t11, t12] ()) fun (y : Lp Bool Unit) => match y with | .ret r => .ok (.rt r) | .fin s => .ok (.nx ()) else .ok (.nx ())))) t2 ()) fun (y : Lp Bool Unit) => match y with | .ret r => .ok r | .fin s => .ok true

noncomputable def m_law_told (which : Int) (periods : (SeqL Int)) (length : Int) (place : Int) : Res (Tx × Int) :=
  Res.bind (Res.catch (if (decide (which = (0 : Int))) = true then Res.bind (m_class_count periods length) fun (t2 : Int) => .ok (.ret (([116, 111, 108, 100] : Tx), t2)) else Res.bind (m_class_of periods length place) fun (t3 : Int) => .ok (.ret (([116, 111, 108, 100] : Tx), t3))) (fun (xe1 : Exn) => if kn_WordError xe1 = true then Res.bind (is_TooMany xe1) fun (many : Bool) => Res.bind (is_OutOfBounds xe1) fun (beyond : Bool) => Res.bind (is_NoPeriod xe1) fun (none : Bool) => Res.bind (Res.bind (is_ValueError xe1) fun b => .ok (!b)) fun b4 => (if b4 = true then .ok (.ret (([111, 116, 104, 101, 114] : Tx), (0 : Int))) else (if (many && ((!beyond) && (!none))) = true then Res.bind (fldI "TooMany" "most" xe1) fun (t5 : Int) => .ok (.ret (([109, 97, 110, 121] : Tx), t5)) else (if (beyond && ((!many) && (!none))) = true then Res.bind (fldI "OutOfBounds" "value" xe1) fun (t6 : Int) => .ok (.ret (([98, 101, 121, 111, 110, 100] : Tx), t6)) else (if (none && ((!many) && (!beyond))) = true then .ok (.ret (([110, 111, 110, 101] : Tx), (0 : Int))) else .ok (.ret (([111, 116, 104, 101, 114] : Tx), (0 : Int))))))) else .bad)) fun (y : Lp (Tx × Int) Unit) => match y with | .ret r => .ok r | .fin s => .bad

noncomputable def m_law_refused (told : (Tx × Int)) (kind : Tx) (due : Int) : Res Bool :=
  (if (decide (told.1 = kind)) = true then Res.bind (m_law_number told.2 due) fun (t1 : Bool) => .ok t1 else .ok false)

noncomputable def m_law_refusals (periods : (List Int)) (at_ : Int) (bad : Int) (length : Int) (n : Int) : Res Bool :=
  Res.bind (lCat (cutL periods none (some at_)) [bad]) fun (t1 : (List Int)) => Res.bind (lCat t1 (cutL periods (some (at_ + (1 : Int))) none)) fun (t2 : (List Int)) => Res.bind (rngR 0 (2 : Int)) fun xs3 => Res.bind (forR (fun (which : Int) (s : Unit) => Res.bind (m_law_told which (SeqL.mk t2) length n) fun (t4 : (Tx × Int)) => Res.bind (m_law_refused t4 ([98, 101, 121, 111, 110, 100] : Tx) bad) fun (t5 : Bool) => (if (!t5) = true then .ok (.rt false) else Res.bind (lRep t2 (7 : Int)) fun (t6 : (List Int)) => Res.bind (m_law_told which (SeqL.mk (cutL t6 none (some (7 : Int)))) length n) fun (t7 : (Tx × Int)) => Res.bind (m_law_refused t7 ([109, 97, 110, 121] : Tx) (6 : Int)) fun (t8 : Bool) => (if (!t8) = true then .ok (.rt false) else Res.bind (m_law_told which (SeqL.mk periods) length n) fun (t9 : (Tx × Int)) => Res.bind (m_law_refused t9 ([98, 101, 121, 111, 110, 100] : Tx) length) fun (t10 : Bool) => (if (!t10) = true then .ok (.rt false) else Res.bind (m_law_told which (SeqL.mk ([] : List Int)) length (0 : Int)) fun (t11 : (Tx × Int)) => Res.bind (m_law_refused t11 ([98, 101, 121, 111, 110, 100] : Tx) length) fun (t12 : Bool) => (if (!t12) = true then .ok (.rt false) else Res.bind (m_law_told which (SeqL.mk ([] : List Int)) (7 : Int) (6 : Int)) fun (t13 : (Tx × Int)) => Res.bind (m_law_refused t13 ([110, 111, 110, 101] : Tx) (0 : Int)) fun (t14 : Bool) => (if (!t14) = true then .ok (.rt false) else .ok (.nx ()))))))) xs3 ()) fun (y : Lp Bool Unit) => match y with | .ret r => .ok r | .fin s => Res.bind (forR (fun (place : Int) (s : Unit) => Res.bind (m_law_told (1 : Int) (SeqL.mk periods) n place) fun (t16 : (Tx × Int)) => Res.bind (m_law_refused t16 ([98, 101, 121, 111, 110, 100] : Tx) place) fun (t17 : Bool) => (if (!t17) = true then .ok (.rt false) else Res.bind (m_law_told (1 : Int) (SeqL.mk ([] : List Int)) n place) fun (t18 : (Tx × Int)) => Res.bind (m_law_refused t18 ([98, 101, 121, 111, 110, 100] : Tx) place) fun (t19 : Bool) => (if (!t19) = true then .ok (.rt false) else .ok (.nx ())))) [n, (-(1 : Int)), (1000000000000000001 : Int)] ()) fun (y : Lp Bool Unit) => match y with | .ret r => .ok r | .fin s => Res.bind (m_law_told (0 : Int) (SeqL.mk ([] : List Int)) (0 : Int) (0 : Int)) fun (t21 : (Tx × Int)) => Res.bind (m_law_refused t21 ([110, 111, 110, 101] : Tx) (0 : Int)) fun (t22 : Bool) => .ok t22

noncomputable def m_law (script : Scr) : Res Bool :=
  Res.bind (.ok (cutL script.l none (some (63 : Int)))) fun (cells : (List Int)) => Res.bind (m_law_dig cells (0 : Int) [(8 : Int), (6 : Int), (41 : Int), (61 : Int), (4 : Int), (4 : Int), (6 : Int), (6 : Int)]) fun (t1 : (List Int)) => Res.bind (.ok (12 : Int)) fun (limit : Int) => Res.bind (lGet t1 (2 : Int)) fun (n : Int) => Res.bind (Res.bind (lGet t1 (0 : Int)) fun (t2 : Int) => (.ok (decide (t2 = (5 : Int))))) fun b3 => Res.bind (if b3 = true then Res.bind (.ok (20 : Int)) fun (limit : Int) => Res.bind (lGet t1 (3 : Int)) fun (n : Int) => .ok (limit, n) else .ok (limit, n)) fun (s : Int × Int) => match s with | (limit, n) => Res.bind (Res.bind (lGet t1 (1 : Int)) fun (t4 : Int) => (.ok ((1 : Int) + t4))) fun (t6 : Int) => Res.bind (rngR 0 t6) fun xs5 => Res.bind (lcM (fun (k_ : Int) => Res.bind (noX (m_law_dig cells ((1 : Int) + k_) [limit])) fun (t7 : (List Int)) => Res.bind (lGet t7 (0 : Int)) fun (t8 : Int) => Res.bind (.ok ((1 : Int) + t8)) fun (t9 : Int) => .ok t9) xs5) fun (ys10 : List Int) => Res.bind (m_law_dig cells (7 : Int) [(1000000000 : Int), (1000000000 : Int), (1000000000 : Int)]) fun (t11 : (List Int)) => Res.bind (m_law_table ys10 n (1 : Int) (0 : Int)) fun (t12 : (ML4 Int Int (List Int) (List Int))) => Res.bind (m_law_total t12) fun (t14 : Int) => Res.bind (m_law_asked (SeqL.mk ys10) n t14 t12 ([] : List (List Int)) t11) fun (t15 : Bool) => (if (!t15) = true then .ok false else Res.bind (neD ys10 ys10) fun (t17 : Bool) => (if t17 = true then .ok false else Res.bind (m_law_dig cells (8 : Int) [(9 : Int), (100000000 : Int), (100000000 : Int), (3 : Int), (100000000 : Int), (100000000 : Int)]) fun (t18 : (List Int)) => Res.bind (Res.bind (Res.bind (Res.bind (lGet t18 (1 : Int)) fun (t19 : Int) => (mulI t19 (100000000 : Int))) fun (t20 : Int) => (.ok ((1 : Int) + t20))) fun (t21 : Int) => Res.bind (lGet t18 (2 : Int)) fun (t22 : Int) => (.ok (t21 + t22))) fun (most : Int) => Res.bind (Res.bind (lGet t18 (0 : Int)) fun (t23 : Int) => (.ok ((2 : Int) + t23))) fun (t24 : Int) => Res.bind (Res.bind (lGet t18 (1 : Int)) fun (t25 : Int) => (.ok ((1 : Int) + t25))) fun (t26 : Int) => Res.bind (Res.bind (lGet t18 (1 : Int)) fun (t27 : Int) => (.ok ((1 : Int) + t27))) fun (t28 : Int) => Res.bind (lGet t1 (4 : Int)) fun (t29 : Int) => Res.bind (lGet [t24, t26, t28, most] t29) fun (t30 : Int) => Res.bind (Res.bind (Res.bind (lGet t18 (4 : Int)) fun (t31 : Int) => .ok t31) fun (t32 : Int) => (modI t32 t30)) fun (t33 : Int) => Res.bind (Res.bind (Res.bind (Res.bind (lGet t18 (4 : Int)) fun (t34 : Int) => (mulI t34 (100000000 : Int))) fun (t35 : Int) => Res.bind (lGet t18 (5 : Int)) fun (t36 : Int) => (.ok (t35 + t36))) fun (t37 : Int) => (modI t37 t30)) fun (t38 : Int) => Res.bind (lGet t18 (3 : Int)) fun (t39 : Int) => Res.bind (lGet [(0 : Int), t33, t38] t39) fun (t40 : Int) => Res.bind (m_law_table ys10 n t30 t40) fun (t41 : (ML4 Int Int (List Int) (List Int))) => Res.bind (m_law_total t41) fun (t42 : Int) => Res.bind (lcM (fun (p : Int) => Res.bind (mulI t30 p) fun (t43 : Int) => .ok t43) ys10) fun (ys44 : List Int) => Res.bind (rngR 0 ((ys10.length : Nat) : Int)) fun xs45 => Res.bind (forS (fun (k_ : Int) (s : (List Int)) => match s with | handed => Res.bind (lGet ys44 k_) fun (t46 : Int) => Res.bind (lSet handed k_ t46) fun (handed : (List Int)) => .ok handed) xs45 ys10) fun (s : (List Int)) => match s with | handed => Res.bind (lcM (fun (draw : Int) => Res.bind (Res.bind (mulI draw (1000000000 : Int)) fun (t48 : Int) => Res.bind (lGet t11 (0 : Int)) fun (t49 : Int) => (.ok (t48 + t49))) fun (t50 : Int) => .ok t50) t11) fun (ys51 : List Int) => Res.bind (Res.bind (mulI t30 n) fun (t53 : Int) => (.ok (t53 + t40))) fun (t54 : Int) => Res.bind (m_law_asked (SeqL.mk handed) t54 t42 t41 ([] : List (List Int)) ys51) fun (t55 : Bool) => (if (!t55) = true then .ok false else Res.bind (neD handed ys44) fun (t57 : Bool) => (if t57 = true then .ok false else Res.bind (Res.bind (mulI t30 n) fun (t58 : Int) => (.ok (t58 + t40))) fun (t59 : Int) => Res.bind (lGet t1 (5 : Int)) fun (t60 : Int) => Res.bind (m_law_led_on cells ys44 t59 t42 t60) fun (t61 : (ML4 (List Int) Int Int (List (List Int)))) => Res.bind (m_law_asked (SeqL.mk (TupL.mk t61.a).l) t61.b t61.c t41 t61.d ys51) fun (t62 : Bool) => (if (!t62) = true then .ok false else Res.bind (m_law_dig cells (9 : Int) [(4 : Int), (1000000000 : Int), (1000000000 : Int), (1000000000 : Int), (1000000000 : Int), (9 : Int), (1000000000 : Int), (1000000000 : Int)]) fun (t63 : (List Int)) => Res.bind (m_law_two t63) fun (t64 : (List Int)) => Res.bind (lGet t64 (0 : Int)) fun (t65 : Int) => Res.bind (lGet t64 (1 : Int)) fun (t66 : Int) => Res.bind (Res.bind (Res.bind (lGet t63 (6 : Int)) fun (t67 : Int) => (mulI t67 (1000000000 : Int))) fun (t68 : Int) => Res.bind (lGet t63 (7 : Int)) fun (t69 : Int) => (.ok (t68 + t69))) fun (t70 : Int) => Res.bind (m_law_two_asked t65 t66 t70) fun (t71 : Bool) => (if (!t71) = true then .ok false else Res.bind (Res.bind (lGet t11 (1 : Int)) fun (t72 : Int) => (.ok ((-(1 : Int)) - t72))) fun (t73 : Int) => Res.bind (Res.bind (lGet t11 (1 : Int)) fun (t74 : Int) => (.ok ((1000000000000000001 : Int) + t74))) fun (t75 : Int) => Res.bind (lGet t1 (6 : Int)) fun (t76 : Int) => Res.bind (lGet [(0 : Int), (-(1 : Int)), (1000000000000000001 : Int), t73, t75, (-(1000000000000000000000000000000000000000 : Int))] t76) fun (t77 : Int) => Res.bind (lGet t1 (6 : Int)) fun (t78 : Int) => Res.bind (lGet [(-(1 : Int)), (1000000000000000001 : Int), (-(1 : Int)), (1000000000000000001 : Int), (-(1 : Int)), (1000000000000000001 : Int)] t78) fun (t79 : Int) => Res.bind (Res.bind (Res.bind (lGet t1 (7 : Int)) fun (t80 : Int) => .ok t80) fun (t81 : Int) => (modI t81 ((ys10.length : Nat) : Int))) fun (t82 : Int) => Res.bind (m_law_refusals ys10 t82 t77 t79 n) fun (t83 : Bool) => (if (!t83) = true then .ok false else Res.bind (m_law_total t12) fun (t84 : Int) => Res.bind (m_law_asked (SeqL.mk ys10) n t84 t12 ([] : List (List Int)) t11) fun (t85 : Bool) => .ok t85)))))))
end G
namespace M
/-! several periods: from which length on they force their greatest common divisor -/
def PerF (P : Int → Prop) (n : Int) (f : Int → Int) : Prop := ∀ p, P p → ∀ i, 0 ≤ i → i + p < n → f i = f (i + p)
def Held (P : Int → Prop) (g n : Int) : Prop := ∀ f, PerF P n f → ∀ i j, 0 ≤ i → i < n → 0 ≤ j → j < n → i % g = j % g → f i = f j
theorem held_chain {f : Int → Int} {g n : Int} (hg : 1 ≤ g) (h : ∀ t, 0 ≤ t → t + g < n → f t = f (t + g)) {i j : Int} (hi : 0 ≤ i) (hi2 : i < n) (hj : 0 ≤ j) (hj2 : j < n) (e : i % g = j % g) : f i = f j := by
  have key : ∀ (k : Nat) (i : Int), 0 ≤ i → i < n → i.toNat ≤ k → f i = f (i % g) := by
    intro k
    induction k with
    | zero =>
      intro i h0 _ hk
      have : i = 0 := by omega
      subst this
      rw [Int.zero_emod]
    | succ k ih =>
      intro i h0 h1 hk
      by_cases c : i < g
      · rw [Int.emod_eq_of_lt h0 c]
      · have a := h (i - g) (by omega) (by omega)
        rw [Int.sub_add_cancel] at a
        rw [← a, ih (i - g) (by omega) (by omega) (by omega), Int.sub_emod_right]
  rw [key _ i hi hi2 (Nat.le_refl _), key _ j hj hj2 (Nat.le_refl _), e]
theorem held_congr {P P' : Int → Prop} {g n : Int} (h : ∀ q, P q ↔ P' q) : Held P g n ↔ Held P' g n :=
  ⟨fun a f k => a f fun p hp => k p ((h p).mp hp), fun a f k => a f fun p hp => k p ((h p).mpr hp)⟩
structure Rows (P : Int → Prop) (m g : Int) : Prop where
  mem : P m
  ge : ∀ p, P p → m ≤ p
  dvd : ∀ p, P p → g ∣ p
  g1 : 1 ≤ g
  m1 : 1 ≤ m
theorem held_self {P : Int → Prop} {g n : Int} (hg : 1 ≤ g) (h : P g) : Held P g n := fun f hf i j a b c d e => held_chain hg (fun t t0 t1 => hf g h t t0 t1) a b c d e
def Stp (P : Int → Prop) (m : Int) : Int → Prop := fun q => q = m ∨ ∃ p, P p ∧ m < p ∧ q = p - m
theorem dvd_lt {g m : Int} (h : g ∣ m) (hm : 1 ≤ m) (hg : 1 ≤ g) (ne : m ≠ g) : g < m := by
  have := Int.le_of_dvd (by omega) h
  omega
theorem mod_of_dvd {g m : Int} (h : g ∣ m) (i : Int) : (i - m) % g = i % g := by
  rw [Int.sub_emod, Int.emod_eq_zero_of_dvd h, Int.sub_zero, Int.emod_emod]
theorem held_step {P : Int → Prop} {m g n : Int} (R : Rows P m g) (hm : m ≠ g) (hn : g < n) : Held P g n ↔ 2 * m ≤ n ∧ Held (Stp P m) g (n - m) := by
  have gm := dvd_lt (R.dvd m R.mem) R.m1 R.g1 hm
  have g1 := R.g1
  constructor
  · intro h
    have two : 2 * m ≤ n := by
      by_cases c : 2 * m ≤ n
      · exact c
      · exfalso
        by_cases d : n ≤ m
        · have q := h (fun i => if i = 0 then 1 else 0) (fun p hp i i0 i1 => by have := R.ge p hp; omega) 0 g (by omega) (by omega) (by omega) (by omega) (by rw [Int.emod_self, Int.zero_emod])
          rw [if_pos rfl, if_neg (by omega)] at q
          omega
        · have q := h (fun i => if i = n - m then 1 else 0) (fun p hp i i0 i1 => by
            have := R.ge p hp
            dsimp only
            rw [if_neg (by omega), if_neg (by omega)]) (n - m) (n - m + g) (by omega) (by omega) (by omega) (by omega) (by rw [Int.add_emod_right])
          rw [if_pos rfl, if_neg (by omega)] at q
          omega
    refine ⟨two, fun u hu i j i0 i1 j0 j1 e => ?_⟩
    have um : ∀ i, 0 ≤ i → i + m < n - m → u i = u (i + m) := fun i a b => hu m (.inl rfl) i a b
    have q := h (fun i => if i < n - m then u i else u (i - m)) (fun p hp i a b => by
      have ge := R.ge p hp
      have ci : i < n - m := by omega
      dsimp only
      rw [if_pos ci]
      by_cases pm : p = m
      · subst pm
        by_cases c : i + p < n - p
        · rw [if_pos c]
          exact um i a c
        · rw [if_neg c]
          congr 1
          omega
      · have s := hu (p - m) (.inr ⟨p, hp, by omega, rfl⟩) i a (by omega)
        by_cases c : i + p < n - m
        · rw [if_pos c, s, um (i + (p - m)) (by omega) (by omega)]
          congr 1
          omega
        · rw [if_neg c, s]
          congr 1
          omega) i j i0 (by omega) j0 (by omega) e
    rw [if_pos i1, if_pos j1] at q
    exact q
  · rintro ⟨two, h⟩ f hf i j i0 i1 j0 j1 e
    have fm : ∀ i, 0 ≤ i → i + m < n → f i = f (i + m) := fun i a b => hf m R.mem i a b
    have q := h f (fun q hq i a b => by
      rcases hq with rfl | ⟨p, hp, pm, rfl⟩
      · exact fm i a (by omega)
      · rw [hf p hp i a (by omega), fm (i + (p - m)) (by omega) (by omega)]
        congr 1
        omega)
    have low : ∀ i, 0 ≤ i → i < n → ∃ i', 0 ≤ i' ∧ i' < n - m ∧ f i = f i' ∧ i' % g = i % g := fun i a b => by
      by_cases c : i < n - m
      · exact ⟨i, a, c, rfl, rfl⟩
      · refine ⟨i - m, by omega, by omega, ?_, mod_of_dvd (R.dvd m R.mem) i⟩
        rw [fm (i - m) (by omega) (by omega), Int.sub_add_cancel]
    obtain ⟨i', a1, a2, a3, a4⟩ := low i i0 i1
    obtain ⟨j', b1, b2, b3, b4⟩ := low j j0 j1
    rw [a3, b3]
    exact q i' j' a1 a2 b1 b2 (by rw [a4, b4, e])
/-- the rows after x has been taken -/
def Rk (P : Int → Prop) (m x : Int) : Int → Prop := fun q => q = m ∨ ∃ p, P p ∧ x < p ∧ q = p - x
theorem stp_rk {P : Int → Prop} {m x : Int} (hm : 1 ≤ m) (q : Int) : Stp (Rk P m x) m q ↔ Rk P m (x + m) q := by
  unfold Stp Rk
  constructor
  · rintro (h | ⟨p, h | ⟨p2, h1, h2, h3⟩, h4, h5⟩)
    · exact .inl h
    · omega
    · exact .inr ⟨p2, h1, by omega, by omega⟩
  · rintro (h | ⟨p, h1, h2, h3⟩)
    · exact .inl h
    · exact .inr ⟨p - x, .inr ⟨p, h1, by omega, rfl⟩, by omega, by omega⟩
theorem held_rounds {P : Int → Prop} {m g : Int} (R : Rows P m g) (hm : m ≠ g) : ∀ (r : Nat) (n : Int), g < n → (∀ p, P p → ¬ m ∣ p → ((r + 1 : Nat) : Int) * m < p) → (Held P g n ↔ ((r + 2 : Nat) : Int) * m ≤ n ∧ Held (Rk P m (((r + 1 : Nat) : Int) * m)) g (n - ((r + 1 : Nat) : Int) * m)) := by
  have m1 := R.m1
  have gm := dvd_lt (R.dvd m R.mem) R.m1 R.g1 hm
  intro r
  induction r with
  | zero =>
    intro n hn _
    rw [held_step R hm hn, show ((0 + 2 : Nat) : Int) * m = 2 * m by omega, show ((0 + 1 : Nat) : Int) * m = m by omega]
    refine and_congr Iff.rfl (held_congr fun q => ?_)
    unfold Stp Rk
    exact Iff.rfl
  | succ r ih =>
    intro n hn hp
    have e1 : ((r + 1 + 1 : Nat) : Int) * m = ((r + 1 : Nat) : Int) * m + m := by rw [show ((r + 1 + 1 : Nat) : Int) = ((r + 1 : Nat) : Int) + 1 by omega, Int.add_mul, Int.one_mul]
    have e2 : ((r + 2 : Nat) : Int) * m = ((r + 1 : Nat) : Int) * m + m := e1
    have e3 : ((r + 1 + 2 : Nat) : Int) * m = ((r + 1 : Nat) : Int) * m + 2 * m := by rw [show ((r + 1 + 2 : Nat) : Int) = ((r + 1 : Nat) : Int) + 2 by omega, Int.add_mul]
    have q := ih n hn (fun p h1 h2 => by have := hp p h1 h2; rw [e1] at this; omega)
    rw [e2] at q
    rw [q, e1, e3]
    have hx : ∀ p, P p → ((r + 1 : Nat) : Int) * m < p → m ≤ p - ((r + 1 : Nat) : Int) * m := fun p h1 h2 => by
      by_cases c : m ∣ p
      · have d : m ∣ p - ((r + 1 : Nat) : Int) * m := Int.dvd_sub c (Int.dvd_mul_left _ _)
        exact Int.le_of_dvd (by omega) d
      · have := hp p h1 c
        rw [e1] at this
        omega
    have gx : g ∣ ((r + 1 : Nat) : Int) * m := Int.dvd_trans (R.dvd m R.mem) (Int.dvd_mul_left _ _)
    clear q e1 e2 e3 ih hp
    generalize ((r + 1 : Nat) : Int) * m = x at *
    have Rx : Rows (Rk P m x) m g := ⟨.inl rfl, fun q hq => by
      rcases hq with rfl | ⟨p, h1, h2, rfl⟩
      · exact Int.le_refl _
      · exact hx p h1 h2, fun q hq => by
      rcases hq with rfl | ⟨p, h1, h2, rfl⟩
      · exact R.dvd _ R.mem
      · exact Int.dvd_sub (R.dvd p h1) gx, R.g1, R.m1⟩
    by_cases c : x + m ≤ n
    · rw [held_step Rx hm (by omega), show n - x - m = n - (x + m) by omega, held_congr (stp_rk m1)]
      constructor
      · rintro ⟨_, h1, h2⟩
        exact ⟨by omega, h2⟩
      · rintro ⟨h1, h2⟩
        exact ⟨c, by omega, h2⟩
    · exact ⟨fun h => absurd h.1 c, fun h => absurd h.1 (by omega)⟩
end M
namespace M
/-- how often the least may be taken -/
def rndL (m : Int) (rows : List Int) : Int := minDf 0 ((rows.filter fun p => !decide (p % m = 0)).map fun p => p / m)
/-- the rows behind that -/
def lesL (m x : Int) (rows : List Int) : List Int := sortU ([m] ++ (rows.filter fun p => decide (p > x)).map fun p => p - x)
inductive Thr (g : Int) : List Int → Int → Prop
  | stop {m : Int} {rest : List Int} : m = g → Thr g (m :: rest) 0
  | step {m T : Int} {rest : List Int} : m ≠ g → Thr g (lesL m (rndL m (m :: rest) * m) (m :: rest)) T → Thr g (m :: rest) (rndL m (m :: rest) * m + max m T)
structure RInv (g : Int) (rows : List Int) : Prop where
  srt : rows.Pairwise (· < ·)
  pos : ∀ p ∈ rows, 1 ≤ p
  ne : rows ≠ []
  dvd : ∀ p ∈ rows, g ∣ p
  g2 : ∀ d, (∀ p ∈ rows, d ∣ p) → d ∣ g
  g1 : 1 ≤ g
theorem RInv.rows {g m : Int} {rest : List Int} (h : RInv g (m :: rest)) : Rows (· ∈ m :: rest) m g where
  mem := List.mem_cons_self
  ge := fun p hp => by
    rcases List.mem_cons.mp hp with e | e
    · rw [e]; exact Int.le_refl _
    · have := (List.pairwise_cons.mp h.srt).1 p e
      omega
  dvd := h.dvd
  g1 := h.g1
  m1 := h.pos m List.mem_cons_self
theorem rnd_spec {g m : Int} {rest : List Int} (h : RInv g (m :: rest)) (hm : m ≠ g) : 1 ≤ rndL m (m :: rest) ∧ (∀ p ∈ m :: rest, ¬ m ∣ p → rndL m (m :: rest) * m < p) ∧ ∃ p ∈ m :: rest, ¬ m ∣ p ∧ p / m = rndL m (m :: rest) := by
  have R := h.rows
  have m1 := R.m1
  have g1 := R.g1
  have ex : ∃ p ∈ m :: rest, ¬ m ∣ p := by
    by_cases c : ∃ p ∈ m :: rest, ¬ m ∣ p
    · exact c
    · exfalso
      have d := h.g2 m fun p hp => by
        by_cases q : m ∣ p
        · exact q
        · exact absurd ⟨p, hp, q⟩ c
      have a := Int.le_of_dvd (by omega) d
      have b := Int.le_of_dvd (by omega) (R.dvd m R.mem)
      omega
  have mem : ∀ z, z ∈ ((m :: rest).filter fun p => !decide (p % m = 0)).map (fun p => p / m) ↔ ∃ p ∈ m :: rest, ¬ m ∣ p ∧ p / m = z := fun z => by
    rw [List.mem_map]
    constructor
    · rintro ⟨p, hp, rfl⟩
      obtain ⟨h1, h2⟩ := List.mem_filter.mp hp
      refine ⟨p, h1, fun d => ?_, rfl⟩
      rw [decide_eq_true (Int.emod_eq_zero_of_dvd d)] at h2
      cases h2
    · rintro ⟨p, h1, h2, rfl⟩
      refine ⟨p, List.mem_filter.mpr ⟨h1, ?_⟩, rfl⟩
      rw [decide_eq_false fun e => h2 (Int.dvd_of_emod_eq_zero e)]
      rfl
  unfold rndL
  obtain ⟨p0, h0, d0⟩ := ex
  have in0 := (mem (p0 / m)).mpr ⟨p0, h0, d0, rfl⟩
  generalize ((m :: rest).filter fun p => !decide (p % m = 0)).map (fun p => p / m) = L at mem in0 ⊢
  cases L with
  | nil => cases in0
  | cons x xs =>
    obtain ⟨a, b, c⟩ := minF_le xs x
    have le : ∀ z ∈ x :: xs, minF x xs ≤ z := fun z hz => (List.mem_cons.mp hz).elim (fun e => by rw [e]; exact a) (b z)
    have inn : minF x xs ∈ x :: xs := c.elim (fun e => by rw [e]; exact List.mem_cons_self) (List.mem_cons_of_mem _)
    show 1 ≤ minF x xs ∧ (∀ p ∈ m :: rest, ¬ m ∣ p → minF x xs * m < p) ∧ ∃ p ∈ m :: rest, ¬ m ∣ p ∧ p / m = minF x xs
    obtain ⟨p1, h1, d1, e1⟩ := (mem _).mp inn
    refine ⟨?_, fun p hp d => ?_, p1, h1, d1, e1⟩
    · rw [← e1]
      have := R.ge p1 h1
      exact (Int.le_ediv_iff_mul_le (by omega)).mpr (by omega)
    · have q := le _ ((mem (p / m)).mpr ⟨p, hp, d, rfl⟩)
      have q2 := (Int.le_ediv_iff_mul_le (by omega : 0 < m)).mp q
      have ne : minF x xs * m ≠ p := fun e => d ⟨minF x xs, by rw [Int.mul_comm]; exact e.symm⟩
      omega
theorem mem_les {m x q : Int} {rows : List Int} : q ∈ lesL m x rows ↔ Rk (· ∈ rows) m x q := by
  unfold lesL Rk
  rw [mem_sortU, List.mem_append, List.mem_singleton, List.mem_map]
  refine or_congr Iff.rfl ⟨?_, ?_⟩
  · rintro ⟨p, hp, rfl⟩
    obtain ⟨h1, h2⟩ := List.mem_filter.mp hp
    exact ⟨p, h1, of_decide_eq_true h2, rfl⟩
  · rintro ⟨p, h1, h2, rfl⟩
    exact ⟨p, List.mem_filter.mpr ⟨h1, decide_eq_true h2⟩, rfl⟩
theorem les_inv {g m : Int} {rest : List Int} (h : RInv g (m :: rest)) (hm : m ≠ g) : RInv g (lesL m (rndL m (m :: rest) * m) (m :: rest)) := by
  obtain ⟨r1, r2, r3⟩ := rnd_spec h hm
  have R := h.rows
  have m1 := R.m1
  have dx : m ∣ rndL m (m :: rest) * m := Int.dvd_mul_left _ _
  have gx : g ∣ rndL m (m :: rest) * m := Int.dvd_trans (R.dvd m R.mem) dx
  generalize rndL m (m :: rest) * m = x at r2 dx gx ⊢
  refine ⟨sortU_lt _, fun q hq => ?_, fun e => ?_, fun q hq => ?_, fun d hd => h.g2 d fun p hp => ?_, h.g1⟩
  · rcases mem_les.mp hq with rfl | ⟨p, h1, h2, rfl⟩
    · exact m1
    · omega
  · have : m ∈ lesL m x (m :: rest) := mem_les.mpr (.inl rfl)
    rw [e] at this
    cases this
  · rcases mem_les.mp hq with rfl | ⟨p, h1, h2, rfl⟩
    · exact R.dvd _ R.mem
    · exact Int.dvd_sub (R.dvd p h1) gx
  · have dm := hd m (mem_les.mpr (.inl rfl))
    have dx2 := Int.dvd_trans dm dx
    by_cases c : x < p
    · have q := hd (p - x) (mem_les.mpr (.inr ⟨p, hp, c, rfl⟩))
      have := Int.dvd_add q dx2
      rw [Int.sub_add_cancel] at this
      exact this
    · by_cases e : m ∣ p
      · exact Int.dvd_trans dm e
      · exact absurd (r2 p hp e) c
theorem head_le {g m y : Int} {rest : List Int} {L : List Int} (h : RInv g L) (e : L = m :: rest) (hy : y ∈ L) : m ≤ y := by
  subst e
  exact h.rows.ge y hy
/-- what the threshold tells -/
theorem thr_spec {g : Int} {rows : List Int} {T : Int} (h : Thr g rows T) : RInv g rows → ∃ m rest, rows = m :: rest ∧ ((m = g ∧ T = 0) ∨ (m ≠ g ∧ 2 * m ≤ T ∧ (∀ n, g < n → (Held (· ∈ rows) g n ↔ T ≤ n)) ∧ ∀ M, (∀ p ∈ rows, p ≤ M) → T ≤ m + M)) := by
  induction h with
  | @stop m rest e => exact fun _ => ⟨m, rest, rfl, .inl ⟨e, rfl⟩⟩
  | @step m T rest ne h ih =>
    intro inv
    refine ⟨m, rest, rfl, .inr ⟨ne, ?_⟩⟩
    obtain ⟨r1, r2, p0, hp0, hd0, e0⟩ := rnd_spec inv ne
    have R := inv.rows
    have m1 := R.m1
    have gm := dvd_lt (R.dvd m R.mem) m1 R.g1 ne
    have inv2 := les_inv inv ne
    obtain ⟨m', rest', e, k⟩ := ih inv2
    obtain ⟨r, hr⟩ : ∃ r : Nat, rndL m (m :: rest) = ((r + 1 : Nat) : Int) := ⟨(rndL m (m :: rest)).toNat - 1, by omega⟩
    have hrd := fun n hn => held_rounds R ne r n hn (by rw [← hr]; exact r2)
    have e2 : ((r + 2 : Nat) : Int) * m = ((r + 1 : Nat) : Int) * m + m := by rw [show ((r + 2 : Nat) : Int) = ((r + 1 : Nat) : Int) + 1 by omega, Int.add_mul, Int.one_mul]
    have xm : m ≤ ((r + 1 : Nat) : Int) * m := by
      have : 1 * m ≤ ((r + 1 : Nat) : Int) * m := Int.mul_le_mul_of_nonneg_right (by omega) (by omega)
      omega
    rw [← hr] at hrd e2 xm
    simp only [e2] at hrd
    have memM : ∀ {q}, q ∈ lesL m (rndL m (m :: rest) * m) (m :: rest) ↔ _ := fun {q} => mem_les (q := q)
    have m'le : m' ≤ m := head_le inv2 e (memM.mpr (.inl rfl))
    have m'p0 : m' ≤ p0 - rndL m (m :: rest) * m := head_le inv2 e (memM.mpr (.inr ⟨p0, hp0, r2 p0 hp0 hd0, rfl⟩))
    generalize rndL m (m :: rest) * m = x at *
    refine ⟨by omega, fun n hn => ?_, fun M hM => ?_⟩
    · rw [hrd n hn, held_congr fun q => (memM (q := q)).symm]
      rcases k with ⟨rfl, rfl⟩ | ⟨ne', t2, k, _⟩
      · have hs : Held (· ∈ lesL m x (m :: rest)) m' (n - x) := held_self R.g1 (by rw [e]; exact List.mem_cons_self)
        exact ⟨fun q => by omega, fun q => ⟨by omega, hs⟩⟩
      · constructor
        · rintro ⟨a, b⟩
          have := (k (n - x) (by omega)).mp b
          omega
        · intro q
          exact ⟨by omega, (k (n - x) (by omega)).mpr (by omega)⟩
    · have p0M := hM p0 hp0
      rcases k with ⟨rfl, rfl⟩ | ⟨ne', t2, _, k⟩
      · have := r2 p0 hp0 hd0
        omega
      · have := k (max m (M - x)) fun q hq => by
          rcases memM.mp hq with rfl | ⟨p, h1, h2, rfl⟩
          · omega
          · have := hM p h1
            omega
        have := r2 p0 hp0 hd0
        omega
/-! how many turns there are: the product halves -/
def bitsL (xs : List Int) : Nat := (xs.map fun p => p.toNat.log2 + 1).sum
theorem log2_mono {a b : Nat} (h : a ≤ b) : a.log2 ≤ b.log2 := by
  by_cases c : a = 0
  · subst c; simp
  · exact (Nat.le_log2 (by omega)).mpr (Nat.le_trans (Nat.log2_self_le c) h)
theorem log2_half {a b : Nat} (ha : 1 ≤ a) (h : 2 * a ≤ b) : a.log2 + 1 ≤ b.log2 := by
  refine (Nat.le_log2 (by omega)).mpr ?_
  have := Nat.log2_self_le (n := a) (by omega)
  rw [Nat.pow_succ]
  omega
theorem bits_ins (x : Int) : ∀ ys : List Int, bitsL (insU x ys) ≤ bitsL (x :: ys)
  | [] => Nat.le_refl _
  | y :: ys => by
    unfold insU
    split
    · exact Nat.le_refl _
    · split
      · show bitsL (y :: ys) ≤ (x.toNat.log2 + 1) + bitsL (y :: ys)
        omega
      · have := bits_ins x ys
        have e1 : bitsL (y :: insU x ys) = (y.toNat.log2 + 1) + bitsL (insU x ys) := rfl
        have e2 : bitsL (x :: y :: ys) = (x.toNat.log2 + 1) + ((y.toNat.log2 + 1) + bitsL ys) := rfl
        have e3 : bitsL (x :: ys) = (x.toNat.log2 + 1) + bitsL ys := rfl
        omega
theorem bits_sortU : ∀ xs : List Int, bitsL (sortU xs) ≤ bitsL xs
  | [] => Nat.le_refl _
  | x :: xs => by
    have a := bits_ins x (sortU xs)
    have b := bits_sortU xs
    have e1 : bitsL (x :: sortU xs) = (x.toNat.log2 + 1) + bitsL (sortU xs) := rfl
    have e2 : bitsL (x :: xs) = (x.toNat.log2 + 1) + bitsL xs := rfl
    show bitsL (insU x (sortU xs)) ≤ _
    omega
theorem len_ins (x : Int) : ∀ ys : List Int, (insU x ys).length ≤ ys.length + 1
  | [] => Nat.le_refl _
  | y :: ys => by
    unfold insU
    split
    · exact Nat.le_refl _
    · split
      · exact Nat.le_succ _
      · have := len_ins x ys
        simp only [List.length_cons]
        omega
theorem len_sortU : ∀ xs : List Int, (sortU xs).length ≤ xs.length
  | [] => Nat.le_refl _
  | x :: xs => by
    have a := len_ins x (sortU xs)
    have b := len_sortU xs
    show (insU x (sortU xs)).length ≤ xs.length + 1
    omega
/-- each row keeps or loses bits -/
theorem bits_take {x : Int} (hx : 0 ≤ x) : ∀ rows : List Int, bitsL ((rows.filter fun p => decide (p > x)).map fun p => p - x) ≤ bitsL rows
  | [] => Nat.le_refl _
  | p :: rows => by
    have ih := bits_take hx rows
    have e : bitsL (p :: rows) = (p.toNat.log2 + 1) + bitsL rows := rfl
    by_cases c : p > x
    · rw [List.filter_cons_of_pos (by exact decide_eq_true c), List.map_cons]
      have e2 : bitsL ((p - x) :: (rows.filter fun p => decide (p > x)).map fun p => p - x) = ((p - x).toNat.log2 + 1) + bitsL ((rows.filter fun p => decide (p > x)).map fun p => p - x) := rfl
      have := log2_mono (show (p - x).toNat ≤ p.toNat by omega)
      omega
    · rw [List.filter_cons_of_neg (by simpa using c)]
      omega
theorem bits_less {x p : Int} (hx : 0 ≤ x) (h1 : 1 ≤ p - x) (h2 : 2 * (p - x) ≤ p) : ∀ rows : List Int, p ∈ rows → bitsL ((rows.filter fun p => decide (p > x)).map fun p => p - x) < bitsL rows
  | [], h => by cases h
  | y :: rows, h => by
    have e : bitsL (y :: rows) = (y.toNat.log2 + 1) + bitsL rows := rfl
    by_cases c : y > x
    · rw [List.filter_cons_of_pos (by exact decide_eq_true c), List.map_cons]
      have e2 : bitsL ((y - x) :: (rows.filter fun p => decide (p > x)).map fun p => p - x) = ((y - x).toNat.log2 + 1) + bitsL ((rows.filter fun p => decide (p > x)).map fun p => p - x) := rfl
      have a := log2_mono (show (y - x).toNat ≤ y.toNat by omega)
      rcases List.mem_cons.mp h with q | q
      · subst q
        have b := bits_take hx rows
        have := log2_half (a := (p - x).toNat) (b := p.toNat) (by omega) (by omega)
        omega
      · have := bits_less hx h1 h2 rows q
        omega
    · rw [List.filter_cons_of_neg (by simpa using c)]
      have := bits_take hx rows
      omega
theorem les_bits {g m : Int} {rest : List Int} (h : RInv g (m :: rest)) (hm : m ≠ g) : bitsL (lesL m (rndL m (m :: rest) * m) (m :: rest)) < bitsL (m :: rest) ∧ (lesL m (rndL m (m :: rest) * m) (m :: rest)).length ≤ (m :: rest).length := by
  obtain ⟨r1, r2, p0, hp0, hd0, e0⟩ := rnd_spec h hm
  have R := h.rows
  have m1 := R.m1
  have p1 := r2 p0 hp0 hd0
  have xm : m ≤ rndL m (m :: rest) * m := by
    have : 1 * m ≤ rndL m (m :: rest) * m := Int.mul_le_mul_of_nonneg_right (by omega) (by omega)
    omega
  have half : 2 * (p0 - rndL m (m :: rest) * m) ≤ p0 := by
    have a := Int.mul_ediv_add_emod p0 m
    have b := Int.emod_lt_of_pos p0 (show 0 < m by omega)
    rw [e0, Int.mul_comm] at a
    omega
  generalize rndL m (m :: rest) * m = x at *
  have p0r : p0 ∈ rest := by
    rcases List.mem_cons.mp hp0 with e | e
    · exact absurd ⟨1, by omega⟩ hd0
    · exact e
  have e1 : (m :: rest).filter (fun p => decide (p > x)) = rest.filter (fun p => decide (p > x)) := List.filter_cons_of_neg (by simpa using xm)
  unfold lesL
  rw [e1]
  constructor
  · refine Nat.lt_of_le_of_lt (bits_sortU _) ?_
    have a := bits_less (by omega : 0 ≤ x) (by omega : 1 ≤ p0 - x) half rest p0r
    have e2 : bitsL ([m] ++ (rest.filter fun p => decide (p > x)).map fun p => p - x) = (m.toNat.log2 + 1) + bitsL ((rest.filter fun p => decide (p > x)).map fun p => p - x) := rfl
    have e3 : bitsL (m :: rest) = (m.toNat.log2 + 1) + bitsL rest := rfl
    omega
  · refine Nat.le_trans (len_sortU _) ?_
    rw [List.length_append, List.length_map]
    have := List.length_filter_le (fun p => decide (p > x)) rest
    simp only [List.length_cons, List.length_nil]
    omega
theorem les_le {g m M : Int} {rest : List Int} (h : RInv g (m :: rest)) (hm : m ≠ g) (hM : ∀ p ∈ m :: rest, p ≤ M) : ∀ p ∈ lesL m (rndL m (m :: rest) * m) (m :: rest), p ≤ M := by
  obtain ⟨r1, _⟩ := rnd_spec h hm
  have m1 := h.rows.m1
  have xm : 0 ≤ rndL m (m :: rest) * m := Int.mul_nonneg (by omega) (by omega)
  intro q hq
  rcases mem_les.mp hq with rfl | ⟨p, h1, h2, rfl⟩
  · exact hM _ List.mem_cons_self
  · have := hM p h1
    omega
end M
/-! places that periods join, their classes numbered by their first places -/
namespace M
structure Cls (P : Int → Prop) (n : Int) (c : Int → Int) (t : Int) : Prop where
  per : PerF P n c
  uni : ∀ f, PerF P n f → ∀ i j, 0 ≤ i → i < n → 0 ≤ j → j < n → c i = c j → f i = f j
  grow : ∀ i v, 0 ≤ i → i < n → 0 ≤ v → v < c i → ∃ j, 0 ≤ j ∧ j < i ∧ c j = v
  rg : ∀ i, 0 ≤ i → i < n → 0 ≤ c i ∧ c i < t
  sur : ∀ v, 0 ≤ v → v < t → ∃ i, 0 ≤ i ∧ i < n ∧ c i = v
  t0 : 0 ≤ t
theorem Cls.uniq {P : Int → Prop} {n t t' : Int} {c c' : Int → Int} (h : Cls P n c t) (h' : Cls P n c' t') : (∀ i, 0 ≤ i → i < n → c i = c' i) ∧ t = t' := by
  have key : ∀ (k : Nat) (i : Int), i.toNat = k → 0 ≤ i → i < n → c i = c' i := by
    intro k
    induction k using Nat.strongRecOn with
    | _ k ih =>
      intro i e i0 i1
      have ih2 : ∀ j, 0 ≤ j → j < i → c j = c' j := fun j j0 j1 => ih j.toNat (by omega) j rfl j0 (by omega)
      have r := h.rg i i0 i1
      have r' := h'.rg i i0 i1
      rcases Int.lt_trichotomy (c i) (c' i) with q | q | q
      · obtain ⟨j, j0, j1, ej⟩ := h'.grow i (c i) i0 i1 r.1 q
        have a := ih2 j j0 j1
        have b := h.uni c' h'.per i j i0 i1 j0 (by omega) (by omega)
        omega
      · exact q
      · obtain ⟨j, j0, j1, ej⟩ := h.grow i (c' i) i0 i1 r'.1 q
        have a := ih2 j j0 j1
        have b := h'.uni c h.per i j i0 i1 j0 (by omega) (by omega)
        omega
  refine ⟨fun i => key _ i rfl, ?_⟩
  have z := h.t0
  have z' := h'.t0
  rcases Int.lt_trichotomy t t' with q | q | q
  · obtain ⟨i, i0, i1, e⟩ := h'.sur t z q
    have := (h.rg i i0 i1).2
    have := key _ i rfl i0 i1
    omega
  · exact q
  · obtain ⟨i, i0, i1, e⟩ := h.sur t' z' q
    have := (h'.rg i i0 i1).2
    have := key _ i rfl i0 i1
    omega
theorem Cls.congr {P P' : Int → Prop} {n t : Int} {c c' : Int → Int} (h : Cls P n c t) (e : ∀ p, P p ↔ P' p) (e2 : ∀ i, 0 ≤ i → i < n → c i = c' i) (pos : ∀ p, P p → 1 ≤ p) : Cls P' n c' t where
  per := fun p hp i i0 i1 => by
    have hp := (e p).mpr hp
    have := pos p hp
    rw [← e2 i i0 (by omega), ← e2 (i + p) (by omega) i1]
    exact h.per p hp i i0 i1
  uni := fun f hf i j i0 i1 j0 j1 ec => h.uni f (fun p hp => hf p ((e p).mp hp)) i j i0 i1 j0 j1 (by rw [e2 i i0 i1, e2 j j0 j1, ec])
  grow := fun i v i0 i1 v0 v1 => by
    rw [← e2 i i0 i1] at v1
    obtain ⟨j, j0, j1, ej⟩ := h.grow i v i0 i1 v0 v1
    exact ⟨j, j0, j1, by rw [← e2 j j0 (by omega)]; exact ej⟩
  rg := fun i i0 i1 => by rw [← e2 i i0 i1]; exact h.rg i i0 i1
  sur := fun v v0 v1 => by
    obtain ⟨i, i0, i1, ei⟩ := h.sur v v0 v1
    exact ⟨i, i0, i1, by rw [← e2 i i0 i1]; exact ei⟩
  t0 := h.t0
/-- no ties -/
theorem cls_id {P : Int → Prop} {n : Int} (n0 : 0 ≤ n) (h : ∀ p, P p → n ≤ p) : Cls P n (fun i => i) n where
  per := fun p hp i i0 i1 => by
    have := h p hp
    omega
  uni := fun f _ i j _ _ _ _ e => by
    have e : i = j := e
    rw [e]
  grow := fun i v i0 i1 v0 v1 => ⟨v, v0, v1, rfl⟩
  rg := fun i i0 i1 => ⟨i0, i1⟩
  sur := fun v v0 v1 => ⟨v, v0, v1, rfl⟩
  t0 := n0
theorem emod_le {i m : Int} (i0 : 0 ≤ i) (m1 : 1 ≤ m) : 0 ≤ i % m ∧ i % m < m ∧ i % m ≤ i := by
  have a := Int.emod_lt_of_pos i (show 0 < m by omega)
  have d := Int.emod_nonneg i (show m ≠ 0 by omega)
  refine ⟨d, a, ?_⟩
  have : ((i.toNat % m.toNat : Nat) : Int) = i % m := by
    rw [Int.natCast_emod]
    congr 1 <;> omega
  have := Nat.mod_le i.toNat m.toNat
  omega
/-- all periods within n are multiples of one of them -/
theorem cls_mod {P : Int → Prop} {n m : Int} (m1 : 1 ≤ m) (hn : m ≤ n) (hm : P m) (pos : ∀ p, P p → 1 ≤ p) (h : ∀ p, P p → m ∣ p ∨ n ≤ p) : Cls P n (fun i => i % m) m where
  per := fun p hp i i0 i1 => by
    rcases h p hp with ⟨k, rfl⟩ | q
    · show i % m = (i + m * k) % m
      rw [Int.add_mul_emod_self_left]
    · omega
  uni := fun f hf i j i0 i1 j0 j1 e => held_chain m1 (fun t t0 t1 => hf m hm t t0 t1) i0 i1 j0 j1 e
  grow := fun i v i0 i1 v0 v1 => by
    have v1 : v < i % m := v1
    have := emod_le i0 m1
    exact ⟨v, v0, by omega, Int.emod_eq_of_lt v0 (by omega)⟩
  rg := fun i i0 i1 => ⟨Int.emod_nonneg i (by omega), Int.emod_lt_of_pos i (by omega)⟩
  sur := fun v v0 v1 => ⟨v, v0, by omega, Int.emod_eq_of_lt v0 v1⟩
  t0 := by omega
/-- one period taken off all others -/
def stC (m n' t' : Int) (c' : Int → Int) : Int → Int := fun i => if i % m < n' then c' (i % m) else t' + i % m - n'
theorem cls_step {P P' : Int → Prop} {m n' t' : Int} {c' : Int → Int} (m1 : 1 ≤ m) (n0 : 0 ≤ n') (hm : P m) (hm' : P' m) (pos : ∀ q, P' q → 1 ≤ q) (a : ∀ p, P p → p = m ∨ P' (p - m)) (b : ∀ q, P' q → q = m ∨ P (q + m)) (h : Cls P' n' c' t') :
    Cls P (n' + m) (stC m n' t' c') (t' + max 0 (m - n')) := by
  have low : ∀ i, 0 ≤ i → i < n' → stC m n' t' c' i = c' i := fun i i0 i1 => by
    have em := emod_le i0 m1
    unfold stC
    rw [if_pos (by omega)]
    exact held_chain m1 (fun t t0 t1 => h.per m hm' t t0 t1) (by omega) (by omega) i0 i1 (Int.emod_emod_of_dvd i (Int.dvd_refl m))
  have sh : ∀ i, stC m n' t' c' (i + m) = stC m n' t' c' i := fun i => by
    unfold stC
    rw [Int.add_emod_right]
  have t0 := h.t0
  refine ⟨fun p hp i i0 i1 => ?_, fun f hf i j i0 i1 j0 j1 e => ?_, fun i v i0 i1 v0 v1 => ?_, fun i i0 i1 => ?_, fun v v0 v1 => ?_, by omega⟩
  · rcases a p hp with rfl | q
    · exact (sh i).symm
    · have := pos _ q
      rw [show i + p = (i + (p - m)) + m by omega, sh, low i i0 (by omega), low _ (by omega) (by omega)]
      exact h.per _ q i i0 (by omega)
  · have hf' : PerF P' n' f := fun q hq x x0 x1 => by
      rcases b q hq with rfl | z
      · exact hf _ hm x x0 (by omega)
      · have := pos q hq
        have e1 := hf _ z x x0 (by omega)
        have e2 := hf _ hm (x + q) (by omega) (by omega)
        rw [e2, e1]
        congr 1
        omega
    have red : ∀ x, 0 ≤ x → x < n' + m → f x = f (x % m) := fun x x0 x1 => by
      have em := emod_le x0 m1
      exact held_chain m1 (fun t t0 t1 => hf m hm t t0 t1) x0 x1 (by omega) (by omega) (Int.emod_emod_of_dvd x (Int.dvd_refl m)).symm
    have ei := emod_le i0 m1
    have ej := emod_le j0 m1
    rw [red i i0 i1, red j j0 j1]
    unfold stC at e
    by_cases ci : i % m < n' <;> by_cases cj : j % m < n'
    · rw [if_pos ci, if_pos cj] at e
      exact h.uni f hf' _ _ ei.1 ci ej.1 cj e
    · rw [if_pos ci, if_neg cj] at e
      have := (h.rg _ ei.1 ci).2
      omega
    · rw [if_neg ci, if_pos cj] at e
      have := (h.rg _ ej.1 cj).2
      omega
    · rw [if_neg ci, if_neg cj] at e
      congr 1
      omega
  · have em := emod_le i0 m1
    unfold stC at v1
    by_cases ci : i % m < n'
    · rw [if_pos ci] at v1
      obtain ⟨j, j0, j1, ej⟩ := h.grow _ v em.1 ci v0 v1
      exact ⟨j, j0, by omega, by rw [low j j0 (by omega)]; exact ej⟩
    · rw [if_neg ci] at v1
      by_cases q : v < t'
      · obtain ⟨j, j0, j1, ej⟩ := h.sur v v0 q
        exact ⟨j, j0, by omega, by rw [low j j0 j1]; exact ej⟩
      · refine ⟨v - t' + n', by omega, by omega, ?_⟩
        unfold stC
        rw [Int.emod_eq_of_lt (by omega) (by omega), if_neg (by omega)]
        omega
  · have em := emod_le i0 m1
    unfold stC
    by_cases ci : i % m < n'
    · rw [if_pos ci]
      have := h.rg _ em.1 ci
      omega
    · rw [if_neg ci]
      omega
  · by_cases q : v < t'
    · obtain ⟨j, j0, j1, ej⟩ := h.sur v v0 q
      exact ⟨j, j0, by omega, by rw [low j j0 j1]; exact ej⟩
    · refine ⟨v - t' + n', by omega, by omega, ?_⟩
      unfold stC
      rw [Int.emod_eq_of_lt (by omega) (by omega), if_neg (by omega)]
      omega
/-! classes by marks -/
open Classical in
noncomputable def cnt (F : Int → Prop) : Nat → Int
  | 0 => 0
  | k + 1 => cnt F k + if F (k : Int) then 1 else 0
theorem cnt_le (F : Int → Prop) (a : Nat) : ∀ b : Nat, a ≤ b → 0 ≤ cnt F a ∧ cnt F a ≤ cnt F b := by
  have pos : ∀ a : Nat, 0 ≤ cnt F a := fun a => by
    induction a with
    | zero => exact Int.le_refl _
    | succ k ih =>
      unfold cnt
      split <;> omega
  intro b hb
  refine ⟨pos a, ?_⟩
  induction b with
  | zero =>
    have : a = 0 := by omega
    rw [this]
    exact Int.le_refl _
  | succ k ih =>
    by_cases q : a = k + 1
    · rw [q]
      exact Int.le_refl _
    · have := ih (by omega)
      rw [cnt]
      split <;> omega
theorem cnt_lt {F : Int → Prop} {a b : Nat} (h : a < b) (fa : F (a : Int)) : cnt F a < cnt F b := by
  have := (cnt_le F (a + 1) b (by omega)).2
  rw [cnt, if_pos fa] at this
  omega
theorem cnt_at (F : Int → Prop) : ∀ (k : Nat) (v : Int), 0 ≤ v → v < cnt F k → ∃ j : Nat, j < k ∧ F (j : Int) ∧ cnt F j = v
  | 0, v, v0, v1 => by
    unfold cnt at v1
    omega
  | k + 1, v, v0, v1 => by
    by_cases q : v < cnt F k
    · obtain ⟨j, a, b, c⟩ := cnt_at F k v v0 q
      exact ⟨j, by omega, b, c⟩
    · rw [cnt] at v1
      by_cases f : F (k : Int)
      · rw [if_pos f] at v1
        exact ⟨k, by omega, f, by omega⟩
      · rw [if_neg f] at v1
        omega
structure MarkF (P : Int → Prop) (n : Int) (M : Int → Int) : Prop where
  le : ∀ i, 0 ≤ i → i < n → 0 ≤ M i ∧ M i ≤ i
  idem : ∀ i, 0 ≤ i → i < n → M (M i) = M i
  per : PerF P n M
  uni : ∀ f, PerF P n f → ∀ i j, 0 ≤ i → i < n → 0 ≤ j → j < n → M i = M j → f i = f j
theorem MarkF.cls {P : Int → Prop} {n : Int} {M : Int → Int} (h : MarkF P n M) (n0 : 0 ≤ n) {F : Int → Prop} (hF : ∀ a, 0 ≤ a → a < n → (F a ↔ M a = a)) : Cls P n (fun i => cnt F (M i).toNat) (cnt F n.toNat) := by
  have fM : ∀ i, 0 ≤ i → i < n → F (M i) := fun i i0 i1 => (hF _ (h.le i i0 i1).1 (by have := h.le i i0 i1; omega)).mpr (h.idem i i0 i1)
  have at_ : ∀ j : Nat, (j : Int) < n → F (j : Int) → M (j : Int) = (j : Int) := fun j hj f => (hF _ (by omega) hj).mp f
  refine ⟨fun p hp i i0 i1 => ?_, fun f hf i j i0 i1 j0 j1 e => ?_, fun i v i0 i1 v0 v1 => ?_, fun i i0 i1 => ?_, fun v v0 v1 => ?_, (cnt_le F _ _ (Nat.le_refl _)).1⟩
  · show cnt F (M i).toNat = cnt F (M (i + p)).toNat
    rw [h.per p hp i i0 i1]
  · refine h.uni f hf i j i0 i1 j0 j1 ?_
    have a := h.le i i0 i1
    have b := h.le j j0 j1
    have e : cnt F (M i).toNat = cnt F (M j).toNat := e
    have ca : ((M i).toNat : Int) = M i := by omega
    have cb : ((M j).toNat : Int) = M j := by omega
    rcases Nat.lt_trichotomy (M i).toNat (M j).toNat with q | q | q
    · have := cnt_lt (F := F) q (by rw [ca]; exact fM i i0 i1)
      omega
    · omega
    · have := cnt_lt (F := F) q (by rw [cb]; exact fM j j0 j1)
      omega
  · have a := h.le i i0 i1
    obtain ⟨j, j1, fj, ej⟩ := cnt_at F _ v v0 v1
    refine ⟨j, by omega, by omega, ?_⟩
    show cnt F (M (j : Int)).toNat = v
    rw [at_ j (by omega) fj, Int.toNat_natCast]
    exact ej
  · have a := h.le i i0 i1
    have ca : ((M i).toNat : Int) = M i := by omega
    exact ⟨(cnt_le F _ _ (Nat.le_refl _)).1, cnt_lt (by omega) (by rw [ca]; exact fM i i0 i1)⟩
  · obtain ⟨j, j1, fj, ej⟩ := cnt_at F _ v v0 v1
    refine ⟨j, by omega, by omega, ?_⟩
    show cnt F (M (j : Int)).toNat = v
    rw [at_ j (by omega) fj, Int.toNat_natCast]
    exact ej
/-- there always are classes -/
theorem least_nat {Q : Nat → Prop} : ∀ n : Nat, Q n → ∃ k, Q k ∧ k ≤ n ∧ ∀ j, j < k → ¬ Q j := by
  intro n
  induction n using Nat.strongRecOn with
  | _ n ih =>
    intro h
    by_cases c : ∃ j, j < n ∧ Q j
    · obtain ⟨j, j1, j2⟩ := c
      obtain ⟨k, a, b, d⟩ := ih j j1 j2
      exact ⟨k, a, by omega, d⟩
    · exact ⟨n, h, Nat.le_refl _, fun j j1 j2 => c ⟨j, j1, j2⟩⟩
theorem cls_ex (P : Int → Prop) (n : Int) (n0 : 0 ≤ n) (pos : ∀ p, P p → 1 ≤ p) : ∃ c t, Cls P n c t := by
  let Eq' : Int → Int → Prop := fun i j => ∀ f, PerF P n f → f i = f j
  have ex : ∀ i : Int, ∃ k : Nat, (0 ≤ i → Eq' i (k : Int) ∧ (k : Int) ≤ i ∧ ∀ j : Nat, j < k → ¬ Eq' i (j : Int)) := fun i => by
    by_cases q : 0 ≤ i
    · obtain ⟨k, a, b, c⟩ := least_nat (Q := fun k => Eq' i (k : Int)) i.toNat (by
        have : ((i.toNat : Nat) : Int) = i := by omega
        show Eq' i ((i.toNat : Nat) : Int)
        rw [this]
        exact fun f _ => rfl)
      exact ⟨k, fun _ => ⟨a, by omega, c⟩⟩
    · exact ⟨0, fun z => absurd z q⟩
  let M : Int → Int := fun i => ((Classical.choose (ex i) : Nat) : Int)
  have hM : ∀ i, 0 ≤ i → Eq' i (M i) ∧ 0 ≤ M i ∧ M i ≤ i ∧ ∀ j, 0 ≤ j → Eq' i j → M i ≤ j := fun i i0 => by
    obtain ⟨a, b, c⟩ := Classical.choose_spec (ex i) i0
    refine ⟨a, Int.natCast_nonneg _, b, fun j j0 e => ?_⟩
    by_cases q : M i ≤ j
    · exact q
    · exfalso
      refine c j.toNat (by show j.toNat < Classical.choose (ex i); have : M i = ((Classical.choose (ex i) : Nat) : Int) := rfl; omega) ?_
      have : ((j.toNat : Nat) : Int) = j := by omega
      rw [this]
      exact e
  have same : ∀ i j, 0 ≤ i → 0 ≤ j → Eq' i j → M i = M j := fun i j i0 j0 e => by
    obtain ⟨a1, a2, a3, a4⟩ := hM i i0
    obtain ⟨b1, b2, b3, b4⟩ := hM j j0
    have x := a4 (M j) b2 fun f hf => (e f hf).trans (b1 f hf)
    have y := b4 (M i) a2 fun f hf => (e f hf).symm.trans (a1 f hf)
    omega
  have mf : MarkF P n M := by
    refine ⟨fun i i0 i1 => ⟨(hM i i0).2.1, (hM i i0).2.2.1⟩, fun i i0 i1 => ?_, fun p hp i i0 i1 => ?_, fun f hf i j i0 i1 j0 j1 e => ?_⟩
    · obtain ⟨a1, a2, a3, a4⟩ := hM i i0
      exact same (M i) i a2 i0 fun f hf => (a1 f hf).symm
    · have := pos p hp
      exact same i (i + p) i0 (by omega) fun f hf => hf p hp i i0 i1
    · have a := (hM i i0).1 f hf
      have b := (hM j j0).1 f hf
      rw [a, b, e]
  exact ⟨_, _, mf.cls n0 (F := fun a => M a = a) fun a _ _ => Iff.rfl⟩
end M
/-! the program's threshold -/
namespace G
open PySem L2 M
theorem bigN {x : Int} (h : -1000000000000000000000000000000000000000000000000000000000000 < x ∧ x < 1000000000000000000000000000000000000000000000000000000000000) : x.natAbs < 2 ^ 1000 :=
  Nat.lt_of_lt_of_le (by omega : x.natAbs < 1000000000000000000000000000000000000000000000000000000000000) (by decide +kernel)
theorem ok_mulB {x y : Int} {P : Int → Prop} (h : -1000000000000000000000000000000000000000000000000000000000000 < x ∧ x < 1000000000000000000000000000000000000000000000000000000000000) (h2 : -1000000000000000000000000000000000000000000000000000000000000 < y ∧ y < 1000000000000000000000000000000000000000000000000000000000000) (k : P (x * y)) : Ok (mulI x y) P := ⟨_, mulI_ok (bigN h) (bigN h2), k⟩
theorem ok_divB {x y : Int} {P : Int → Prop} (h : 0 < y) (h2 : y < 1000000000000000000000000000000000000000000000000000000000000) (k : P (x / y)) : Ok (divI x y) P := ⟨_, divI_ok h (Int.lt_trans h2 (by decide +kernel)), k⟩
/-- what the program lets pass as periods -/
structure POk (ps : List Int) : Prop where
  ne : ps ≠ []
  len : ps.length ≤ 6
  rg : ∀ p ∈ ps, 1 ≤ p ∧ p ≤ 1000000000000000000
theorem range_ok {v a b : Int} (h : a ≤ v) (h2 : v ≤ b) : m_check_range v a b = .ok () := by
  unfold m_check_range
  rw [decide_eq_false (show ¬ v < a by omega), decide_eq_false (show ¬ v > b by omega)]
  rfl
theorem range_bad {v a b : Int} (h : v < a ∨ b < v) : m_check_range v a b = .exc ⟨"OutOfBounds", [("value", enc v)]⟩ := by
  unfold m_check_range
  refine if_pos ?_
  rw [Bool.or_eq_true]
  exact h.imp decide_eq_true decide_eq_true
theorem periods_ok {ps : List Int} (hl : ps.length ≤ 6) (h : ∀ p ∈ ps, 1 ≤ p ∧ p ≤ 1000000000000000000) : m_check_periods ⟨ps⟩ = .ok () := by
  refine Ok.get (α := Unit) ?_
  unfold m_check_periods m_check_many
  rw [decide_eq_false (by show ¬ ((ps.length : Nat) : Int) > 6; omega)]
  refine ok_bind (ok_ff (ok_ret (ok_bind ?_)))
  refine ok_forL (fun xs _ => ∀ p ∈ xs, 1 ≤ p ∧ p ≤ 1000000000000000000) h ?_ (fun _ _ => ok_ret rfl)
  rintro x ys _ hx
  obtain ⟨a, b⟩ := hx x List.mem_cons_self
  exact ok_bind (ok_eq (range_ok a b) (ok_ret fun p hp => hx p (List.mem_cons_of_mem _ hp)))
theorem require_ok {ps : List Int} (h : ps ≠ []) : m_require_period ⟨ps⟩ = .ok () := by
  unfold m_require_period
  have := List.length_pos_iff.mpr h
  rw [decide_eq_false (by show ¬ ((ps.length : Nat) : Int) = 0; omega)]
  rfl
def gcdI (a b : Int) : Int := ((Nat.gcd (Int.natAbs a) (Int.natAbs b) : Nat) : Int)
def gcdL (ps : List Int) : Int := ps.foldl gcdI 0
theorem gcdI_dvd (a b : Int) : gcdI a b ∣ a ∧ gcdI a b ∣ b := ⟨Int.ofNat_dvd_left.mpr (Nat.gcd_dvd_left _ _), Int.ofNat_dvd_left.mpr (Nat.gcd_dvd_right _ _)⟩
theorem dvd_gcdI {d a b : Int} (h1 : d ∣ a) (h2 : d ∣ b) : d ∣ gcdI a b := Int.ofNat_dvd_right.mpr (Nat.dvd_gcd (Int.natAbs_dvd_natAbs.mpr h1) (Int.natAbs_dvd_natAbs.mpr h2))
theorem gcd_fold : ∀ (ps : List Int) (s : Int), ps.foldl gcdI s ∣ s ∧ (∀ p ∈ ps, ps.foldl gcdI s ∣ p) ∧ ∀ d, d ∣ s → (∀ p ∈ ps, d ∣ p) → d ∣ ps.foldl gcdI s
  | [], s => ⟨Int.dvd_refl _, fun p h => (by cases h), fun d h _ => h⟩
  | x :: ps, s => by
    obtain ⟨a, b, c⟩ := gcd_fold ps (gcdI s x)
    rw [List.foldl_cons]
    refine ⟨Int.dvd_trans a (gcdI_dvd s x).1, fun p hp => ?_, fun d h1 h2 => c d (dvd_gcdI h1 (h2 x List.mem_cons_self)) fun p hp => h2 p (List.mem_cons_of_mem _ hp)⟩
    rcases List.mem_cons.mp hp with e | e
    · rw [e]; exact Int.dvd_trans a (gcdI_dvd s x).2
    · exact b p e
theorem gcdI_nonneg (a b : Int) : 0 ≤ gcdI a b := Int.natCast_nonneg _
theorem gcd_nonneg : ∀ (ps : List Int) (s : Int), 0 ≤ s → 0 ≤ ps.foldl gcdI s
  | [], s, h => h
  | x :: ps, s, _ => gcd_nonneg ps _ (gcdI_nonneg s x)
/-- the greatest common divisor -/
structure IsG (g : Int) (ps : List Int) : Prop where
  g1 : 1 ≤ g
  dvd : ∀ p ∈ ps, g ∣ p
  g2 : ∀ d, (∀ p ∈ ps, d ∣ p) → d ∣ g
theorem IsG.uniq {g g' : Int} {ps : List Int} (h : IsG g ps) (h' : IsG g' ps) : g = g' := by
  have a := Int.le_of_dvd (by have := h'.g1; omega) (h'.g2 g h.dvd)
  have b := Int.le_of_dvd (by have := h.g1; omega) (h.g2 g' h'.dvd)
  omega
theorem gcd_isG {ps : List Int} (ne : ps ≠ []) (h : ∀ p ∈ ps, 1 ≤ p) : IsG (gcdL ps) ps := by
  obtain ⟨a, b, c⟩ := gcd_fold ps 0
  refine ⟨?_, b, fun d hd => c d (Int.dvd_zero d) hd⟩
  obtain ⟨p, hp⟩ := List.exists_mem_of_ne_nil ps ne
  have n := gcd_nonneg ps 0 (Int.le_refl 0)
  have z : gcdL ps ≠ 0 := fun e => by
    have d := b p hp
    rw [show ps.foldl gcdI 0 = 0 from e] at d
    have := Int.zero_dvd.mp d
    have := h p hp
    omega
  have n : 0 ≤ gcdL ps := n
  omega
theorem IsG.rinv {g : Int} {ps : List Int} (h : IsG g ps) (ne : ps ≠ []) (pos : ∀ p ∈ ps, 1 ≤ p) : RInv g (sortU ps) where
  srt := sortU_lt ps
  pos := fun p hp => pos p ((mem_sortU ps).mp hp)
  ne := fun e => by
    obtain ⟨p, hp⟩ := List.exists_mem_of_ne_nil ps ne
    have := (mem_sortU ps).mpr hp
    rw [e] at this
    cases this
  dvd := fun p hp => h.dvd p ((mem_sortU ps).mp hp)
  g2 := fun d hd => h.g2 d fun p hp => hd p ((mem_sortU ps).mpr hp)
  g1 := h.g1
theorem head0 {m : Int} {rest : List Int} : lGet (m :: rest) (0 : Int) = .ok m := lGet_nat (xs := m :: rest) (k := 0) (by simp)
theorem rounds_ok {m : Int} {rest : List Int} (m1 : 1 ≤ m) (m2 : m ≤ 1000000000000000000) (hl : (m :: rest).length ≤ 1000) : m_rounds (m :: rest) = .ok (rndL m (m :: rest)) := by
  refine Ok.get (α := Int) ?_
  unfold m_rounds
  refine ok_bind (ok_eq (a := m) head0 (ok_bind ?_))
  refine ok_lcR (p := fun p => !decide (p % m = 0)) (g := fun p => p / m) (by omega) (fun x _ => ?_) (fun x _ => ?_) (ok_ret rfl)
  · exact ok_bind (ok_bind (ok_modI (by omega) (ok_ret (ok_ret rfl))))
  · exact ok_bind (ok_divB (by omega) (by omega) (ok_ret rfl))
theorem lessened_ok {m r : Int} {rest : List Int} (hm : 0 ≤ m ∧ m ≤ 1000000000000000000) (hr : 0 ≤ r ∧ r ≤ 1000000000000000000) (hl : (m :: rest).length ≤ 50) : m_lessened (m :: rest) r = .ok (lesL m (r * m) (m :: rest)) := by
  refine Ok.get (α := List Int) ?_
  unfold m_lessened
  refine ok_bind (ok_eq (a := m) head0 (ok_bind (ok_mulB (by omega) (by omega) (ok_bind ?_))))
  refine ok_lcR (p := fun p => decide (p > r * m)) (g := fun p => p - r * m) (by omega) (fun x _ => ok_ret rfl) (fun x _ => ok_ret rfl) ?_
  have fl := List.length_filter_le (fun p => decide (p > r * m)) (m :: rest)
  refine ok_bind (ok_lCat (by simp only [List.length_map, List.length_cons, List.length_nil] at *; omega) (ok_bind ⟨_, ?_, ok_ret rfl⟩))
  unfold lSortU
  refine if_pos ?_
  simp only [List.length_append, List.length_map, List.length_cons, List.length_nil] at *
  omega
/-! the program's classes -/
structure RS (rows : List Int) : Prop where
  srt : rows.Pairwise (· < ·)
  pos : ∀ p ∈ rows, 1 ≤ p
  ne : rows ≠ []
theorem RS.rinv {rows : List Int} (h : RS rows) : ∃ g, RInv g rows := by
  have k := gcd_isG h.ne h.pos
  exact ⟨gcdL rows, h.srt, h.pos, h.ne, k.dvd, k.g2, k.g1⟩
theorem rs_sort {ps : List Int} (ne : ps ≠ []) (pos : ∀ p ∈ ps, 1 ≤ p) : RS (sortU ps) := by
  have k := (gcd_isG ne pos).rinv ne pos
  exact ⟨k.srt, k.pos, k.ne⟩
theorem rs_les {m x : Int} {rows : List Int} (m1 : 1 ≤ m) : RS (lesL m x rows) := by
  refine ⟨sortU_lt _, fun q hq => ?_, fun e => ?_⟩
  · rcases mem_les.mp hq with rfl | ⟨p, h1, h2, rfl⟩ <;> omega
  · have : m ∈ lesL m x rows := mem_les.mpr (.inl rfl)
    rw [e] at this
    cases this
theorem RS.ge {m : Int} {rest : List Int} (h : RS (m :: rest)) : ∀ p ∈ m :: rest, m ≤ p := fun p hp => by
  obtain ⟨g, k⟩ := h.rinv
  exact k.rows.ge p hp
theorem rnd_zero {m : Int} {rest : List Int} (h : RS (m :: rest)) : (rndL m (m :: rest) = 0 ∧ ∀ p ∈ m :: rest, m ∣ p) ∨ (1 ≤ rndL m (m :: rest) ∧ (∀ p ∈ m :: rest, ¬ m ∣ p → rndL m (m :: rest) * m < p) ∧ ∃ g, m ≠ g ∧ RInv g (m :: rest)) := by
  obtain ⟨g, k⟩ := h.rinv
  by_cases e : m = g
  · have al : ∀ p ∈ m :: rest, m ∣ p := fun p hp => e ▸ k.dvd p hp
    refine .inl ⟨?_, al⟩
    unfold rndL
    rw [List.filter_eq_nil_iff.mpr fun p hp => by rw [decide_eq_true (Int.emod_eq_zero_of_dvd (al p hp))]; decide]
    rfl
  · obtain ⟨a, b, _⟩ := rnd_spec k e
    exact .inr ⟨a, b, g, e, k⟩
def mu (rows : List Int) (L : Int) : Nat := bitsL rows + 2 * L.toNat.log2 + if 2 * rows.headD 0 ≤ L then 1 else 0
theorem bits_les {m x : Int} {rest : List Int} (m1 : 1 ≤ m) (xm : m ≤ x) : bitsL (lesL m x (m :: rest)) ≤ bitsL (m :: rest) ∧ (lesL m x (m :: rest)).length ≤ (m :: rest).length := by
  have e1 : (m :: rest).filter (fun p => decide (p > x)) = rest.filter (fun p => decide (p > x)) := List.filter_cons_of_neg (by simpa using xm)
  unfold lesL
  rw [e1]
  constructor
  · refine Nat.le_trans (bits_sortU _) ?_
    have a := bits_take (by omega : 0 ≤ x) rest
    have e2 : bitsL ([m] ++ (rest.filter fun p => decide (p > x)).map fun p => p - x) = (m.toNat.log2 + 1) + bitsL ((rest.filter fun p => decide (p > x)).map fun p => p - x) := rfl
    have e3 : bitsL (m :: rest) = (m.toNat.log2 + 1) + bitsL rest := rfl
    omega
  · refine Nat.le_trans (len_sortU _) ?_
    rw [List.length_append, List.length_map]
    have := List.length_filter_le (fun p => decide (p > x)) rest
    simp only [List.length_cons, List.length_nil]
    omega
structure Nx (m : Int) (rest : List Int) (L r : Int) : Prop where
  r1 : 1 ≤ r
  rL : r * m < L
  nm : ∀ p ∈ m :: rest, ¬ m ∣ p → r * m < p
  rs : RS (lesL m (r * m) (m :: rest))
  len : (lesL m (r * m) (m :: rest)).length ≤ (m :: rest).length
  dn : mu (lesL m (r * m) (m :: rest)) (L - r * m) < mu (m :: rest) L
  room : 2 * m ≤ L → m ≤ L - r * m
  le : ∀ M, (∀ p ∈ m :: rest, p ≤ M) → ∀ p ∈ lesL m (r * m) (m :: rest), p ≤ M
theorem nx {m L r : Int} {rest : List Int} (h : RS (m :: rest)) (hL : m < L) (h0 : rndL m (m :: rest) ≠ 0) (hr : (L < 2 * m ∧ r = 1) ∨ (2 * m ≤ L ∧ r = min (rndL m (m :: rest)) (L / m - 1))) : Nx m rest L r := by
  have m1 := h.pos m List.mem_cons_self
  rcases rnd_zero h with ⟨z, _⟩ | ⟨k1, k2, g, ne, inv⟩
  · exact absurd z h0
  have dm := Int.mul_ediv_add_emod L m
  have dl := Int.emod_lt_of_pos L (show 0 < m by omega)
  have dn := Int.emod_nonneg L (show m ≠ 0 by omega)
  have qm : (L / m) * m = m * (L / m) := Int.mul_comm _ _
  have r1 : 1 ≤ r := by
    rcases hr with ⟨_, e⟩ | ⟨e, e2⟩
    · omega
    · have : 2 ≤ L / m := (Int.le_ediv_iff_mul_le (by omega)).mpr (by omega)
      omega
  have rk : r ≤ rndL m (m :: rest) := by omega
  have rm : r * m ≤ rndL m (m :: rest) * m := Int.mul_le_mul_of_nonneg_right rk (by omega)
  have xm : m ≤ r * m := by
    have : 1 * m ≤ r * m := Int.mul_le_mul_of_nonneg_right r1 (by omega)
    omega
  have room : 2 * m ≤ L → m ≤ L - r * m := fun e => by
    have rq : r ≤ L / m - 1 := by omega
    have : r * m ≤ (L / m - 1) * m := Int.mul_le_mul_of_nonneg_right rq (by omega)
    rw [Int.sub_mul, Int.one_mul] at this
    omega
  have rL : r * m < L := by
    rcases hr with ⟨e, e2⟩ | ⟨e, e2⟩
    · rw [e2]; omega
    · have := room e; omega
  have nm : ∀ p ∈ m :: rest, ¬ m ∣ p → r * m < p := fun p hp d => by
    have := k2 p hp d
    omega
  obtain ⟨b1, b2⟩ := bits_les (rest := rest) m1 xm
  have lg : (L - r * m).toNat.log2 ≤ L.toNat.log2 := log2_mono (by omega)
  refine ⟨r1, rL, nm, rs_les m1, b2, ?_, room, fun M hM p hp => ?_⟩
  · unfold mu
    rw [show (m :: rest).headD 0 = m from rfl]
    rcases hr with ⟨e, e2⟩ | ⟨e, e2⟩
    · have em : r * m = m := by rw [e2, Int.one_mul]
      have : (L - r * m).toNat.log2 + 1 ≤ L.toNat.log2 := log2_half (by omega) (by omega)
      rw [if_neg (show ¬ 2 * m ≤ L by omega)]
      split <;> omega
    · rw [if_pos e]
      by_cases q : r = rndL m (m :: rest)
      · have := (les_bits inv ne).1
        rw [← q] at this
        split <;> omega
      · have e3 : r = L / m - 1 := by omega
        have e4 : r * m = (L / m) * m - m := by rw [e3, Int.sub_mul, Int.one_mul]
        have hd : m ≤ (lesL m (r * m) (m :: rest)).headD 0 := by
          have rs := rs_les (x := r * m) (rows := m :: rest) m1
          have mm : ∀ y ∈ lesL m (r * m) (m :: rest), m ≤ y := fun y hy => by
            rcases mem_les.mp hy with rfl | ⟨p, h1, h2, rfl⟩
            · exact Int.le_refl _
            · have e5 : (r + 1) * m = r * m + m := by rw [Int.add_mul, Int.one_mul]
              by_cases d : m ∣ p
              · obtain ⟨z, rfl⟩ := d
                have : r < z := by
                  by_cases c : r < z
                  · exact c
                  · have : z * m ≤ r * m := Int.mul_le_mul_of_nonneg_right (by omega) (by omega)
                    rw [Int.mul_comm m z] at h2
                    omega
                have : (r + 1) * m ≤ z * m := Int.mul_le_mul_of_nonneg_right (by omega) (by omega)
                rw [Int.mul_comm m z]
                omega
              · have a := k2 p h1 d
                have : (r + 1) * m ≤ rndL m (m :: rest) * m := Int.mul_le_mul_of_nonneg_right (by omega) (by omega)
                omega
          have ne2 := rs.ne
          generalize lesL m (r * m) (m :: rest) = Y at mm ne2
          cases Y with
          | nil => exact absurd rfl ne2
          | cons y ys => exact mm y List.mem_cons_self
        rw [if_neg (by omega)]
        omega
  · rcases mem_les.mp hp with rfl | ⟨p, h1, h2, rfl⟩
    · exact hM _ List.mem_cons_self
    · have := hM p h1
      omega
/-! the classes behind some turns -/
theorem cls_one {P : Int → Prop} {m n t' : Int} {c' : Int → Int} (m1 : 1 ≤ m) (hn : m ≤ n) (hm : P m) (ge : ∀ p, P p → m ≤ p) (h : Cls (Stp P m) (n - m) c' t') : Cls P n (stC m (n - m) t' c') (t' + max 0 (m - (n - m))) := by
  have := cls_step (P := P) m1 (by omega) hm (.inl rfl) (fun q hq => by rcases hq with rfl | ⟨p, h1, h2, rfl⟩ <;> omega) (fun p hp => by
    have := ge p hp
    by_cases e : p = m
    · exact .inl e
    · exact .inr (.inr ⟨p, hp, by omega, rfl⟩)) (fun q hq => by
    rcases hq with rfl | ⟨p, h1, h2, rfl⟩
    · exact .inl rfl
    · refine .inr ?_
      rw [Int.sub_add_cancel]
      exact h1) h
  rw [Int.sub_add_cancel] at this
  exact this
theorem cls_rounds {P : Int → Prop} {m n : Int} (m1 : 1 ≤ m) (hm : P m) (ge : ∀ p, P p → m ≤ p) (pos : ∀ p, P p → 1 ≤ p) : ∀ (r : Nat) (c' : Int → Int) (t' : Int), (∀ p, P p → ¬ m ∣ p → ((r + 1 : Nat) : Int) * m < p) → m ≤ n - ((r + 1 : Nat) : Int) * m →
    Cls (Rk P m (((r + 1 : Nat) : Int) * m)) (n - ((r + 1 : Nat) : Int) * m) c' t' → Cls P n (fun i => c' (i % m)) t'
  | 0, c', t', hp, hn, h => by
    rw [show ((0 + 1 : Nat) : Int) * m = m by omega] at hn h
    have := cls_one m1 (by omega) hm ge h
    rw [show t' + max 0 (m - (n - m)) = t' by omega] at this
    refine this.congr (fun _ => Iff.rfl) (fun i i0 i1 => ?_) pos
    have := emod_le i0 m1
    unfold stC
    rw [if_pos (by omega)]
  | r + 1, c', t', hp, hn, h => by
    have e : ((r + 1 + 1 : Nat) : Int) * m = ((r + 1 : Nat) : Int) * m + m := by rw [show ((r + 1 + 1 : Nat) : Int) = ((r + 1 : Nat) : Int) + 1 by omega, Int.add_mul, Int.one_mul]
    rw [e] at hp hn h
    have nn : 0 ≤ ((r + 1 : Nat) : Int) * m := Int.mul_nonneg (by omega) (by omega)
    have posR : ∀ p, Rk P m (((r + 1 : Nat) : Int) * m) p → 1 ≤ p := fun q hq => by
      rcases hq with rfl | ⟨p, h1, h2, rfl⟩ <;> omega
    have geR : ∀ p, Rk P m (((r + 1 : Nat) : Int) * m) p → m ≤ p := fun q hq => by
      rcases hq with rfl | ⟨p, h1, h2, rfl⟩
      · exact Int.le_refl _
      · by_cases d : m ∣ p
        · obtain ⟨z, rfl⟩ := d
          rw [Int.mul_comm m z] at h2 ⊢
          have : ((r + 1 : Nat) : Int) < z := by
            by_cases c : ((r + 1 : Nat) : Int) < z
            · exact c
            · have : z * m ≤ ((r + 1 : Nat) : Int) * m := Int.mul_le_mul_of_nonneg_right (by omega) (by omega)
              omega
          have : (((r + 1 : Nat) : Int) + 1) * m ≤ z * m := Int.mul_le_mul_of_nonneg_right (by omega) (by omega)
          rw [Int.add_mul, Int.one_mul] at this
          omega
        · have := hp p h1 d
          omega
    have h2 : Cls (Stp (Rk P m (((r + 1 : Nat) : Int) * m)) m) (n - ((r + 1 : Nat) : Int) * m - m) c' t' := by
      rw [Int.sub_sub]
      exact h.congr (fun q => (stp_rk m1 q).symm) (fun _ _ _ => rfl) fun q hq => by
        rcases hq with rfl | ⟨p, h1, h2, rfl⟩ <;> omega
    have h3 := cls_one m1 (by omega) (.inl rfl) geR h2
    rw [show t' + max 0 (m - (n - ((r + 1 : Nat) : Int) * m - m)) = t' by omega] at h3
    have h4 := cls_rounds m1 hm ge pos r _ _ (fun p h1 d => by have := hp p h1 d; omega) (by omega) h3
    refine h4.congr (fun _ => Iff.rfl) (fun i i0 i1 => ?_) pos
    have := emod_le i0 m1
    have e2 : i % m % m = i % m := Int.emod_emod_of_dvd i (Int.dvd_refl m)
    unfold stC
    rw [e2, if_pos (by omega)]
/-- one turn of the program -/
theorem cls_turn {m L r t : Int} {rest : List Int} {c : Int → Int} (h : RS (m :: rest)) (N : Nx m rest L r) (hL : m < L) (hr : L < 2 * m → r = 1) (k : Cls (· ∈ m :: rest) L c t) : ∃ c' t', Cls (· ∈ lesL m (r * m) (m :: rest)) (L - r * m) c' t' ∧
    (L < 2 * m → t = t' + (2 * m - L) ∧ ∀ i, 0 ≤ i → i < L → c i = if i % m < L - m then c' (i % m) else t' + i % m - (L - m)) ∧ (2 * m ≤ L → t = t' ∧ ∀ i, 0 ≤ i → i < L → c i = c' (i % m)) := by
  have m1 := h.pos m List.mem_cons_self
  have rs := N.rs
  obtain ⟨c', t', k'⟩ := cls_ex (· ∈ lesL m (r * m) (m :: rest)) (L - r * m) (by have := N.rL; omega) rs.pos
  have kr : Cls (Rk (· ∈ m :: rest) m (r * m)) (L - r * m) c' t' := k'.congr (fun q => mem_les) (fun _ _ _ => rfl) rs.pos
  refine ⟨c', t', k', fun e => ?_, fun e => ?_⟩
  · have er := hr e
    rw [er, Int.one_mul] at kr
    obtain ⟨a, b⟩ := k.uniq (cls_one m1 (by omega) List.mem_cons_self h.ge kr)
    exact ⟨by omega, a⟩
  · have r1 := N.r1
    obtain ⟨j, hj⟩ : ∃ j : Nat, r = ((j + 1 : Nat) : Int) := ⟨r.toNat - 1, by omega⟩
    have nm := N.nm
    have room := N.room e
    rw [hj] at nm room kr
    obtain ⟨a, b⟩ := k.uniq (cls_rounds m1 List.mem_cons_self h.ge h.pos j c' t' nm room kr)
    exact ⟨b, a⟩
end G
namespace G
open PySem L2 M
theorem mu_small {rows : List Int} {L : Int} (hl : rows.length ≤ 6) (hM : ∀ p ∈ rows, p ≤ 1000000000000000000) (hL : L ≤ 1000000000000000000) : mu rows L < 100000 := by
  have lg : ∀ x : Int, x ≤ 1000000000000000000 → x.toNat.log2 ≤ 60 := fun x hx => log2_le (n := x.toNat) (k := 60) (Nat.lt_of_le_of_lt (by omega : x.toNat ≤ 1000000000000000000) (by decide +kernel))
  have : ∀ qs : List Int, (∀ p ∈ qs, p ≤ 1000000000000000000) → bitsL qs ≤ 61 * qs.length := by
    intro qs
    induction qs with
    | nil => exact fun _ => Nat.le_refl _
    | cons q qs ih =>
      intro hq
      have a := lg q (hq q List.mem_cons_self)
      have b := ih fun p hp => hq p (List.mem_cons_of_mem _ hp)
      have e : bitsL (q :: qs) = (q.toNat.log2 + 1) + bitsL qs := rfl
      rw [List.length_cons]
      omega
  have a := this rows hM
  have b := lg L hL
  unfold mu
  split <;> omega
theorem rnd_le {m : Int} {rest : List Int} (h : RS (m :: rest)) (hM : ∀ p ∈ m :: rest, p ≤ 1000000000000000000) : 0 ≤ rndL m (m :: rest) ∧ rndL m (m :: rest) ≤ 1000000000000000000 := by
  rcases rnd_zero h with ⟨z, _⟩ | ⟨k1, k2, g, ne, inv⟩
  · omega
  · obtain ⟨_, _, p0, hp0, hd0, e0⟩ := rnd_spec inv ne
    have a := hM p0 hp0
    have p01 := inv.pos p0 hp0
    have m1 := inv.rows.m1
    have b : p0 / m ≤ p0 := Int.ediv_le_self _ (by omega)
    omega
theorem classes_ok {rows : List Int} {L t : Int} {c : Int → Int} (h : RS rows) (hl : rows.length ≤ 6) (hM : ∀ p ∈ rows, p ≤ 1000000000000000000) (hL : L ≤ 1000000000000000000) (L0 : 0 ≤ L) (k : Cls (· ∈ rows) L c t) : m_classes rows L = .ok t := by
  refine Ok.get (α := Int) ?_
  unfold m_classes
  refine ok_bind (ok_ret (ok_bind ?_))
  refine ok_while (fun s : List Int × Int × Int => RS s.1 ∧ s.1.length ≤ 6 ∧ (∀ p ∈ s.1, p ≤ 1000000000000000000) ∧ 0 ≤ s.2.1 ∧ s.2.1 ≤ 1000000000000000000 ∧ ∃ c' t', Cls (· ∈ s.1) s.2.1 c' t' ∧ s.2.2 + t' = t) (fun s => mu s.1 s.2.1) ?_ ?_ ?_
  · exact ⟨h, hl, hM, L0, hL, c, t, k, by dsimp only; omega⟩
  · exact mu_small hl hM hL
  · rintro ⟨rows, L, added⟩ ⟨h, hl, hM, L0, hL, c, t', k, et⟩
    dsimp only at h hl hM L0 hL k et ⊢
    cases rows with
    | nil => exact absurd rfl h.ne
    | cons m rest =>
      have m1 := h.pos m List.mem_cons_self
      have mM := hM m List.mem_cons_self
      refine ok_bind (ok_bind (ok_eq (a := m) head0 (ok_ret (ok_ret ⟨fun e => ?_, fun e => ?_⟩))))
      · have hm := of_decide_eq_true e
        have rb := rnd_le h hM
        refine ok_bind (ok_eq (a := m) head0 (ok_bind (ok_eq (rounds_ok m1 mM (by omega)) ?_)))
        by_cases z : rndL m (m :: rest) = 0
        · rw [decide_eq_true z]
          refine ok_tt (ok_ret ?_)
          rcases rnd_zero h with ⟨_, al⟩ | ⟨a, _⟩
          · have := (k.uniq (cls_mod m1 (by omega) List.mem_cons_self h.pos fun p hp => .inl (al p hp))).2
            refine ok_ret ?_
            omega
          · omega
        · rw [decide_eq_false z]
          refine ok_ff (ok_bind (ok_bind (ok_mulB (by omega) (by omega) (ok_ret ?_))))
          have two : (2 : Int) * m = 2 * m := rfl
          refine ok_bind (ok_mono (Q := fun s : Int × Int => ((L < 2 * m ∧ s.2 = 1) ∨ (2 * m ≤ L ∧ s.2 = min (rndL m (m :: rest)) (L / m - 1))) ∧ s.1 = added + (if L < 2 * m then 2 * m - L else 0)) ?_ ?_)
          · refine ok_ite (fun q => ?_) (fun q => ?_)
            · have q := of_decide_eq_true q
              refine ok_bind (ok_bind (ok_bind (ok_mulB (by omega) (by omega) (ok_ret (ok_ret (ok_bind (ok_ret (ok_ret ⟨.inl ⟨q, rfl⟩, ?_⟩))))))))
              rw [if_pos q]
            · have q := of_decide_eq_false q
              refine ok_bind (ok_bind (ok_ret (ok_bind (ok_bind (ok_divB (by omega) (by omega) (ok_ret (ok_ret (ok_ret ⟨.inr ⟨by omega, rfl⟩, ?_⟩))))))))
              rw [if_neg q]
              dsimp only
              omega
          · rintro ⟨ad, r⟩ ⟨hr, ea⟩
            dsimp only at hr ea ⊢
            have N := nx h hm z hr
            obtain ⟨c', t2, k2, s1, s2⟩ := cls_turn h N hm (fun q => by omega) k
            have r1 := N.r1
            have rL := N.rL
            have rb2 : r ≤ 1000000000000000000 := by omega
            refine ok_bind (ok_eq (lessened_ok (by omega) (by omega) (by omega)) (ok_bind (ok_bind (ok_mulB (by omega) (by omega) (ok_ret (ok_ret ?_))))))
            have xm : 0 ≤ r * m := Int.mul_nonneg (by omega) (by omega)
            refine ⟨⟨N.rs, Nat.le_trans N.len hl, N.le _ hM, by dsimp only; omega, by dsimp only; omega, c', t2, k2, ?_⟩, N.dn⟩
            dsimp only
            rw [ea]
            by_cases q : L < 2 * m
            · rw [if_pos q]
              have := (s1 q).1
              omega
            · rw [if_neg q]
              have := (s2 (by omega)).1
              omega
      · have hm := of_decide_eq_false e
        have := (k.uniq (cls_id L0 fun p hp => by have := h.ge p hp; omega)).2
        refine ok_ret ?_
        show added + L = t
        omega
theorem class_at_ok {rows : List Int} {L t x : Int} {c : Int → Int} (h : RS rows) (hl : rows.length ≤ 6) (hM : ∀ p ∈ rows, p ≤ 1000000000000000000) (hL : L ≤ 1000000000000000000) (x0 : 0 ≤ x) (x1 : x < L) (k : Cls (· ∈ rows) L c t) : m_class_at rows L x = .ok (c x) := by
  refine Ok.get (α := Int) ?_
  unfold m_class_at
  refine ok_bind ?_
  refine ok_while (fun s : List Int × Int × Int => RS s.1 ∧ s.1.length ≤ 6 ∧ (∀ p ∈ s.1, p ≤ 1000000000000000000) ∧ s.2.1 ≤ 1000000000000000000 ∧ 0 ≤ s.2.2 ∧ s.2.2 < s.2.1 ∧ ∃ c' t', Cls (· ∈ s.1) s.2.1 c' t' ∧ c' s.2.2 = c x) (fun s => mu s.1 s.2.1) ?_ ?_ ?_
  · exact ⟨h, hl, hM, hL, x0, x1, c, t, k, rfl⟩
  · exact mu_small hl hM hL
  · rintro ⟨rows, L, y⟩ ⟨h, hl, hM, hL, y0, y1, c', t', k, et⟩
    dsimp only at h hl hM hL y0 y1 k et ⊢
    cases rows with
    | nil => exact absurd rfl h.ne
    | cons m rest =>
      have m1 := h.pos m List.mem_cons_self
      have mM := hM m List.mem_cons_self
      refine ok_bind (ok_bind (ok_eq (a := m) head0 (ok_ret (ok_ret ⟨fun e => ?_, fun e => ?_⟩))))
      · have hm := of_decide_eq_true e
        have rb := rnd_le h hM
        have ym := emod_le y0 m1
        refine ok_bind (ok_eq (a := m) head0 (ok_bind (ok_modI (by omega) (ok_bind (ok_eq (rounds_ok m1 mM (by omega)) ?_)))))
        by_cases z : rndL m (m :: rest) = 0
        · rw [decide_eq_true z]
          refine ok_tt (ok_ret ?_)
          rcases rnd_zero h with ⟨_, al⟩ | ⟨a, _⟩
          · have := (k.uniq (cls_mod m1 (by omega) List.mem_cons_self h.pos fun p hp => .inl (al p hp))).1 y y0 y1
            refine ok_ret ?_
            rw [← et, this]
          · omega
        · rw [decide_eq_false z]
          refine ok_ff (ok_bind (ok_bind (ok_mulB (by omega) (by omega) (ok_ret ?_))))
          refine ok_ite (fun q => ?_) (fun q => ?_)
          · have q := of_decide_eq_true q
            have N := nx h hm z (.inl ⟨q, rfl⟩)
            obtain ⟨c2, t2, k2, s1, _⟩ := cls_turn h N hm (fun _ => rfl) k
            have cy := (s1 q).2 y y0 y1
            have rL := N.rL
            rw [Int.one_mul] at k2
            refine ok_bind (ok_ret (ok_bind (ok_ret ?_)))
            refine ok_ite (fun w => ?_) (fun w => ?_)
            · have w := of_decide_eq_true w
              rw [if_neg (by omega)] at cy
              have ls := N.rs
              have ll := Nat.le_trans N.len hl
              have lM := N.le _ hM
              have le := lessened_ok (m := m) (r := 1) (rest := rest) (by omega) (by omega) (by omega)
              rw [Int.one_mul] at ls ll lM le
              refine ok_bind (ok_eq le (ok_bind (ok_eq (classes_ok ls ll lM (by omega) (by omega) k2) (ok_bind (ok_ret (ok_bind (ok_ret (ok_ret ?_))))))))
              refine ok_ret ?_
              omega
            · have w := of_decide_eq_false w
              rw [if_pos (by omega)] at cy
              refine ok_bind (ok_eq (lessened_ok (by omega) (by omega) (by omega)) (ok_bind (ok_bind (ok_mulB (by omega) (by omega) (ok_ret (ok_ret ?_))))))
              refine ⟨⟨N.rs, Nat.le_trans N.len hl, N.le _ hM, by dsimp only; omega, ym.1, by dsimp only; omega, c2, t2, by dsimp only; rw [Int.one_mul]; exact k2, ?_⟩, N.dn⟩
              dsimp only
              rw [← cy, et]
          · have q := of_decide_eq_false q
            refine ok_bind (ok_bind (ok_ret (ok_bind (ok_bind (ok_divB (by omega) (by omega) (ok_ret (ok_ret ?_)))))))
            have hr : (L < 2 * m ∧ min (rndL m (m :: rest)) (L / m - 1) = 1) ∨ (2 * m ≤ L ∧ min (rndL m (m :: rest)) (L / m - 1) = min (rndL m (m :: rest)) (L / m - 1)) := .inr ⟨by omega, rfl⟩
            have N := nx h hm z hr
            obtain ⟨c2, t2, k2, _, s2⟩ := cls_turn h N hm (fun w => absurd w q) k
            have cy := (s2 (by omega)).2 y y0 y1
            have r1 := N.r1
            have room := N.room (by omega)
            have rl2 : min (rndL m (m :: rest)) (L / m - 1) ≤ 1000000000000000000 := by omega
            have xm : 0 ≤ min (rndL m (m :: rest)) (L / m - 1) * m := Int.mul_nonneg (by omega) (by omega)
            generalize min (rndL m (m :: rest)) (L / m - 1) = r at *
            refine ok_bind (ok_eq (lessened_ok (by omega) (by omega) (by omega)) (ok_bind (ok_bind (ok_mulB (by omega) (by omega) (ok_ret (ok_ret ?_))))))
            refine ⟨⟨N.rs, Nat.le_trans N.len hl, N.le _ hM, by dsimp only; omega, ym.1, by dsimp only; omega, c2, t2, k2, ?_⟩, N.dn⟩
            dsimp only
            rw [← cy, et]
      · have hm := of_decide_eq_false e
        have := (k.uniq (cls_id (by omega) fun p hp => by have := h.ge p hp; omega)).1 y y0 y1
        refine ok_ret ?_
        show y = c x
        omega
theorem sort_ok {ps : List Int} (h : POk ps) : lSortU ps = .ok (sortU ps) := by
  unfold lSortU
  have := h.len
  exact if_pos (by show ps.length < 64; omega)
theorem sort_facts {ps : List Int} (h : POk ps) : RS (sortU ps) ∧ (sortU ps).length ≤ 6 ∧ (∀ p ∈ sortU ps, p ≤ 1000000000000000000) ∧ ∀ {n c t}, Cls (· ∈ ps) n c t → Cls (· ∈ sortU ps) n c t :=
  ⟨rs_sort h.ne fun p hp => (h.rg p hp).1, Nat.le_trans (len_sortU ps) h.len, fun p hp => (h.rg p ((mem_sortU ps).mp hp)).2, fun k => k.congr (fun p => (mem_sortU ps).symm) (fun _ _ _ => rfl) fun p hp => (h.rg p hp).1⟩
theorem count_ok {ps : List Int} {n t : Int} {c : Int → Int} (h : POk ps) (n0 : 0 ≤ n) (n1 : n ≤ 1000000000000000000) (k : Cls (· ∈ ps) n c t) : m_class_count ⟨ps⟩ n = .ok t := by
  refine Ok.get (α := Int) ?_
  obtain ⟨a, b, d, e⟩ := sort_facts h
  unfold m_class_count
  exact ok_bind (ok_eq (periods_ok h.len h.rg) (ok_bind (ok_eq (range_ok n0 n1) (ok_bind (ok_eq (require_ok h.ne) (ok_bind (ok_eq (sort_ok h) (ok_bind (ok_eq (classes_ok a b d n1 n0 (e k)) (ok_ret rfl))))))))))
theorem of_ok {ps : List Int} {n t x : Int} {c : Int → Int} (h : POk ps) (n1 : n ≤ 1000000000000000000) (x0 : 0 ≤ x) (x1 : x < n) (k : Cls (· ∈ ps) n c t) : m_class_of ⟨ps⟩ n x = .ok (c x) := by
  refine Ok.get (α := Int) ?_
  obtain ⟨a, b, d, e⟩ := sort_facts h
  unfold m_class_of
  exact ok_bind (ok_eq (periods_ok h.len h.rg) (ok_bind (ok_eq (range_ok (by omega) n1) (ok_bind (ok_eq (range_ok x0 (by omega)) (ok_bind (ok_eq (require_ok h.ne) (ok_bind (ok_eq (sort_ok h) (ok_bind (ok_eq (class_at_ok a b d n1 x0 x1 (e k)) (ok_ret rfl))))))))))))
end G
/-! marks, scale, led rows, two periods -/
namespace M
def mkv (marks : List Int) (i : Int) : Int := marks.getD i.toNat 0
theorem mk_get {marks : List Int} {i : Int} (h0 : 0 ≤ i) (h : i < (marks.length : Int)) : lGet marks i = .ok (mkv marks i) := by
  have hl : i.toNat < marks.length := by omega
  rw [lGet_int h0 hl]
  unfold mkv
  rw [List.getD_eq_getElem?_getD, List.getElem?_eq_getElem hl]
  rfl
theorem mk_app {a b : List Int} {i : Int} (h0 : 0 ≤ i) (h : i < (a.length : Int)) : mkv (a ++ b) i = mkv a i := by
  unfold mkv
  rw [List.getD_eq_getElem?_getD, List.getD_eq_getElem?_getD, List.getElem?_append_left (by omega)]
theorem mk_last {a : List Int} {x : Int} : mkv (a ++ [x]) (a.length : Int) = x := by
  unfold mkv
  rw [List.getD_eq_getElem?_getD, Int.toNat_natCast, List.getElem?_append_right (Nat.le_refl _), Nat.sub_self]
  rfl
theorem mk_map {a : List Int} {f : Int → Int} {i : Int} (h0 : 0 ≤ i) (h : i < (a.length : Int)) : mkv (a.map f) i = f (mkv a i) := by
  have hl : i.toNat < a.length := by omega
  unfold mkv
  rw [List.getD_eq_getElem?_getD, List.getD_eq_getElem?_getD, List.getElem?_map, List.getElem?_eq_getElem hl]
  rfl
theorem mk_mem {a : List Int} {i : Int} (h0 : 0 ≤ i) (h : i < (a.length : Int)) : mkv a i ∈ a := by
  have hl : i.toNat < a.length := by omega
  unfold mkv
  rw [List.getD_eq_getElem?_getD, List.getElem?_eq_getElem hl]
  exact List.getElem_mem hl

structure CI (P : Int → Prop) (n : Int) (D : Int → Int → Prop) (marks : List Int) : Prop where
  len : (marks.length : Int) = n
  le : ∀ i, 0 ≤ i → i < n → 0 ≤ mkv marks i ∧ mkv marks i ≤ i
  idem : ∀ i, 0 ≤ i → i < n → mkv marks (mkv marks i) = mkv marks i
  tie : ∀ p t, D p t → mkv marks t = mkv marks (t + p)
  uni : ∀ f, PerF P n f → ∀ i j, 0 ≤ i → i < n → 0 ≤ j → j < n → mkv marks i = mkv marks j → f i = f j
theorem CI.join {P : Int → Prop} {n p t : Int} {D : Int → Int → Prop} {marks : List Int} (h : CI P n D marks) (hD : ∀ q x, D q x → 0 ≤ x ∧ x < n ∧ 0 ≤ x + q ∧ x + q < n) (hp : P p) (p1 : 1 ≤ p) (t0 : 0 ≤ t) (t1 : t + p < n)
    (ne : mkv marks t ≠ mkv marks (t + p)) : CI P n (fun q x => D q x ∨ (q = p ∧ x = t)) (marks.map fun m => if m = max (mkv marks t) (mkv marks (t + p)) then min (mkv marks t) (mkv marks (t + p)) else m) := by
  have ln := h.len
  have la := h.le t t0 (by omega)
  have lb := h.le (t + p) (by omega) t1
  have ia := h.idem t t0 (by omega)
  have ib := h.idem (t + p) (by omega) t1
  have ft : ∀ f, PerF P n f → f t = f (t + p) := fun f hf => hf p hp t t0 t1
  obtain ⟨lo, hi, elo, ehi, lt, fx, rep⟩ : ∃ lo hi, min (mkv marks t) (mkv marks (t + p)) = lo ∧ max (mkv marks t) (mkv marks (t + p)) = hi ∧ lo < hi ∧ (0 ≤ lo ∧ mkv marks lo = lo) ∧ ((mkv marks t = lo ∧ mkv marks (t + p) = hi) ∨ (mkv marks t = hi ∧ mkv marks (t + p) = lo)) := by
    refine ⟨_, _, rfl, rfl, by omega, ?_, by omega⟩
    rcases (show min (mkv marks t) (mkv marks (t + p)) = mkv marks t ∨ min (mkv marks t) (mkv marks (t + p)) = mkv marks (t + p) by omega) with e | e
    · rw [e]; exact ⟨la.1, ia⟩
    · rw [e]; exact ⟨lb.1, ib⟩
  rw [elo, ehi]
  have mi : ∀ i, 0 ≤ i → i < n → mkv (marks.map fun m => if m = hi then lo else m) i = if mkv marks i = hi then lo else mkv marks i := fun i a b => mk_map a (by omega)
  -- f on the two classes
  have fl : ∀ f, PerF P n f → ∀ i j, 0 ≤ i → i < n → 0 ≤ j → j < n → mkv marks i = lo → mkv marks j = hi → f i = f j := fun f hf i j i0 i1 j0 j1 e1 e2 => by
    have k := ft f hf
    rcases rep with ⟨r1, r2⟩ | ⟨r1, r2⟩
    · rw [h.uni f hf i t i0 i1 t0 (by omega) (by rw [e1, r1]), h.uni f hf j (t + p) j0 j1 (by omega) t1 (by rw [e2, r2]), k]
    · rw [h.uni f hf i (t + p) i0 i1 (by omega) t1 (by rw [e1, r2]), h.uni f hf j t j0 j1 t0 (by omega) (by rw [e2, r1]), k]
  refine ⟨by rw [List.length_map]; exact ln, fun i i0 i1 => ?_, fun i i0 i1 => ?_, fun q x hx => ?_, fun f hf i j i0 i1 j0 j1 e => ?_⟩
  · have := h.le i i0 i1
    rw [mi i i0 i1]
    split <;> omega
  · have li := h.le i i0 i1
    rw [mi i i0 i1]
    by_cases c : mkv marks i = hi
    · rw [if_pos c, mi lo fx.1 (by omega), if_neg (by rw [fx.2]; omega)]
      exact fx.2
    · rw [if_neg c, mi _ li.1 (by omega), h.idem i i0 i1, if_neg c]
  · rcases hx with hx | ⟨rfl, rfl⟩
    · obtain ⟨a, b, c, d⟩ := hD q x hx
      rw [mi x a b, mi (x + q) c d, h.tie q x hx]
    · rw [mi _ t0 (by omega), mi _ (by omega) t1]
      rcases rep with ⟨r1, r2⟩ | ⟨r1, r2⟩
      · rw [r1, r2, if_neg (by omega), if_pos rfl]
      · rw [r1, r2, if_neg (show ¬ lo = hi by omega), if_pos rfl]
  · rw [mi i i0 i1, mi j j0 j1] at e
    by_cases ci : mkv marks i = hi <;> by_cases cj : mkv marks j = hi
    · exact h.uni f hf i j i0 i1 j0 j1 (by rw [ci, cj])
    · rw [if_pos ci, if_neg cj] at e
      exact (fl f hf j i j0 j1 i0 i1 e.symm ci).symm
    · rw [if_neg ci, if_pos cj] at e
      exact fl f hf i j i0 i1 j0 j1 e cj
    · rw [if_neg ci, if_neg cj] at e
      exact h.uni f hf i j i0 i1 j0 j1 e
/-- the marks are done -/
structure Mks (P : Int → Prop) (n : Int) (marks : List Int) : Prop where
  len : (marks.length : Int) = n
  mf : MarkF P n (mkv marks)
def Fst (n : Int) (marks : List Int) : Int → Prop := fun a => 0 ≤ a ∧ a < n ∧ mkv marks a = a
theorem cnt_congr {F G : Int → Prop} : ∀ k : Nat, (∀ a : Nat, a < k → (F (a : Int) ↔ G (a : Int))) → cnt F k = cnt G k
  | 0, _ => rfl
  | k + 1, h => by
    rw [cnt, cnt, cnt_congr k fun a ha => h a (by omega)]
    have := h k (by omega)
    by_cases c : F (k : Int)
    · rw [if_pos c, if_pos (this.mp c)]
    · rw [if_neg c, if_neg fun z => c (this.mpr z)]
theorem cnt_cut (F : Int → Prop) (f : Nat) : ∀ n : Nat, f ≤ n → cnt (fun a => F a ∧ a < (f : Int)) n = cnt F f
  | 0, h => by
    have : f = 0 := by omega
    rw [this]
    rfl
  | n + 1, h => by
    by_cases c : f = n + 1
    · rw [← c]
      exact cnt_congr f fun a ha => ⟨fun z => z.1, fun z => ⟨z, by omega⟩⟩
    · rw [cnt, cnt_cut F f n (by omega), if_neg (by omega), Int.add_zero]
/-! scale -/
def scM (m more : Int) (N U : List Int) : Int → Int := fun x => (if x % m < more then mkv U (x / m) else mkv N (x / m)) * m + x % m
def scF (n m more : Int) (N U : List Int) : Int → Prop := fun x => if x % m < more then Fst (n + 1) U (x / m) else Fst n N (x / m)
theorem place_at {a b m : Int} (b0 : 0 ≤ b) (bm : b < m) : (a * m + b) % m = b ∧ (a * m + b) / m = a := by
  constructor
  · rw [Int.add_comm, Int.add_mul_emod_self_right, Int.emod_eq_of_lt b0 bm]
  · rw [Int.add_comm, Int.add_mul_ediv_right _ _ (by omega), Int.ediv_eq_zero_of_lt b0 bm, Int.zero_add]
theorem place_of {x m : Int} (m1 : 1 ≤ m) (x0 : 0 ≤ x) : x = (x / m) * m + x % m ∧ 0 ≤ x / m ∧ 0 ≤ x % m ∧ x % m < m := by
  have a := Int.mul_ediv_add_emod x m
  rw [Int.mul_comm] at a
  exact ⟨a.symm, Int.ediv_nonneg x0 (by omega), Int.emod_nonneg x (by omega), Int.emod_lt_of_pos x (by omega)⟩
theorem sc_mark {P : Int → Prop} {n m more : Int} {N U : List Int} (m1 : 1 ≤ m) (e0 : 0 ≤ more) (e1 : more < m) (pos : ∀ p, P p → 1 ≤ p) (hN : Mks P n N) (hU : Mks P (n + 1) U) :
    MarkF (fun p => ∃ q, P q ∧ p = m * q) (m * n + more) (scM m more N U) := by
  have rg : ∀ x, 0 ≤ x → x < m * n + more → (x % m < more → x / m < n + 1) ∧ (¬ x % m < more → x / m < n) := fun x x0 x1 => by
    obtain ⟨a, b, c, d⟩ := place_of m1 x0
    rw [Int.mul_comm] at x1
    constructor
    · intro q
      by_cases z : x / m < n + 1
      · exact z
      · have : (n + 1) * m ≤ (x / m) * m := Int.mul_le_mul_of_nonneg_right (by omega) (by omega)
        rw [Int.add_mul, Int.one_mul] at this
        omega
    · intro q
      by_cases z : x / m < n
      · exact z
      · have : n * m ≤ (x / m) * m := Int.mul_le_mul_of_nonneg_right (by omega) (by omega)
        omega
  -- for each turn its own places
  have key : ∀ u, 0 ≤ u → u < m → ∃ (k : Int) (V : List Int), Mks P k V ∧ (∀ x, 0 ≤ x → x < m * n + more → x % m = u → x / m < k ∧ scM m more N U x = mkv V (x / m) * m + u) ∧ (∀ a, 0 ≤ a → a < k → a * m + u < m * n + more) := fun u u0 u1 => by
    by_cases c : u < more
    · refine ⟨n + 1, U, hU, fun x x0 x1 e => ⟨(rg x x0 x1).1 (by omega), ?_⟩, fun a a0 a1 => ?_⟩
      · unfold scM
        rw [e, if_pos c]
      · have : a * m ≤ n * m := Int.mul_le_mul_of_nonneg_right (by omega) (by omega)
        rw [Int.mul_comm m n]
        omega
    · refine ⟨n, N, hN, fun x x0 x1 e => ⟨(rg x x0 x1).2 (by omega), ?_⟩, fun a a0 a1 => ?_⟩
      · unfold scM
        rw [e, if_neg c]
      · have : a * m ≤ (n - 1) * m := Int.mul_le_mul_of_nonneg_right (by omega) (by omega)
        rw [Int.sub_mul, Int.one_mul] at this
        rw [Int.mul_comm m n]
        omega
  refine ⟨fun x x0 x1 => ?_, fun x x0 x1 => ?_, fun p hp x x0 x1 => ?_, fun f hf x y x0 x1 y0 y1 e => ?_⟩
  · obtain ⟨a, b, c, d⟩ := place_of m1 x0
    obtain ⟨k, V, hV, h1, h2⟩ := key (x % m) c d
    obtain ⟨h3, h4⟩ := h1 x x0 x1 rfl
    have l := hV.mf.le _ b h3
    have l1 : 0 ≤ mkv V (x / m) * m := Int.mul_nonneg l.1 (by omega)
    have l2 : mkv V (x / m) * m ≤ (x / m) * m := Int.mul_le_mul_of_nonneg_right l.2 (by omega)
    rw [h4]
    omega
  · obtain ⟨a, b, c, d⟩ := place_of m1 x0
    obtain ⟨k, V, hV, h1, h2⟩ := key (x % m) c d
    obtain ⟨h3, h4⟩ := h1 x x0 x1 rfl
    have l := hV.mf.le _ b h3
    obtain ⟨q1, q2⟩ := place_at (a := mkv V (x / m)) c d
    have l1 : 0 ≤ mkv V (x / m) * m := Int.mul_nonneg l.1 (by omega)
    obtain ⟨h5, h6⟩ := h1 (mkv V (x / m) * m + x % m) (by omega) (h2 _ l.1 (by omega)) q1
    rw [h4, h6, q2, hV.mf.idem _ b h3]
  · obtain ⟨q, hq, rfl⟩ := hp
    have q1 := pos q hq
    have mq : 0 ≤ m * q := Int.mul_nonneg (by omega) (by omega)
    obtain ⟨a, b, c, d⟩ := place_of m1 x0
    obtain ⟨k, V, hV, h1, h2⟩ := key (x % m) c d
    have em : (x + m * q) % m = x % m := Int.add_mul_emod_self_left _ _ _
    have ed : (x + m * q) / m = x / m + q := Int.add_mul_ediv_left _ _ (by omega)
    obtain ⟨h3, h4⟩ := h1 x x0 (by omega) rfl
    obtain ⟨h5, h6⟩ := h1 (x + m * q) (by omega) x1 em
    rw [h4, h6, ed]
    rw [ed] at h5
    rw [hV.mf.per q hq _ b h5]
  · obtain ⟨a, b, c, d⟩ := place_of m1 x0
    obtain ⟨a', b', c', d'⟩ := place_of m1 y0
    obtain ⟨k, V, hV, h1, h2⟩ := key (x % m) c d
    obtain ⟨k', V', hV', h1', h2'⟩ := key (y % m) c' d'
    obtain ⟨h3, h4⟩ := h1 x x0 x1 rfl
    obtain ⟨h5, h6⟩ := h1' y y0 y1 rfl
    have sm : x % m = y % m := by
      have e1 := (place_at (a := mkv V (x / m)) c d).1
      have e2 := (place_at (a := mkv V' (y / m)) c' d').1
      rw [← h4] at e1
      rw [← h6, ← e] at e2
      omega
    obtain ⟨h7, h8⟩ := h1 y y0 y1 sm.symm
    have vv : mkv V (x / m) = mkv V (y / m) := by
      have e1 := (place_at (a := mkv V (x / m)) c d).2
      have e2 := (place_at (a := mkv V (y / m)) c d).2
      rw [← h4, e, h8] at e1
      omega
    have hf' : PerF P k (fun z => f (z * m + x % m)) := fun q hq z z0 z1 => by
      have q1 := pos q hq
      have := hf (m * q) ⟨q, hq, rfl⟩ (z * m + x % m) (by have := Int.mul_nonneg z0 (show 0 ≤ m by omega); omega) (by
        have := h2 (z + q) (by omega) z1
        rw [Int.add_mul, Int.mul_comm q m] at this
        omega)
      show f (z * m + x % m) = f ((z + q) * m + x % m)
      rw [this]
      congr 1
      rw [Int.add_mul, Int.mul_comm q m]
      omega
    have := hV.mf.uni _ hf' (x / m) (y / m) b h3 b' h7 vv
    have this : f (x / m * m + x % m) = f (y / m * m + x % m) := this
    rw [← a, sm, ← a'] at this
    exact this
theorem sc_first {P : Int → Prop} {n m more : Int} {N U : List Int} (m1 : 1 ≤ m) (e0 : 0 ≤ more) (e1 : more < m) : ∀ x, 0 ≤ x → x < m * n + more → (scF n m more N U x ↔ scM m more N U x = x) := fun x x0 x1 => by
  obtain ⟨a, b, c, d⟩ := place_of m1 x0
  rw [Int.mul_comm] at x1
  have cancel : ∀ z, z * m + x % m = x ↔ z = x / m := fun z => by
    constructor
    · intro e
      have := (place_at (a := z) c d).2
      rw [e] at this
      exact this.symm
    · intro e
      rw [e]
      exact a.symm
  unfold scF scM Fst
  by_cases q : x % m < more
  · rw [if_pos q, if_pos q, cancel]
    refine ⟨fun z => z.2.2, fun z => ⟨b, ?_, z⟩⟩
    by_cases y : x / m < n + 1
    · exact y
    · have : (n + 1) * m ≤ (x / m) * m := Int.mul_le_mul_of_nonneg_right (by omega) (by omega)
      rw [Int.add_mul, Int.one_mul] at this
      omega
  · rw [if_neg q, if_neg q, cancel]
    refine ⟨fun z => z.2.2, fun z => ⟨b, ?_, z⟩⟩
    by_cases y : x / m < n
    · exact y
    · have : n * m ≤ (x / m) * m := Int.mul_le_mul_of_nonneg_right (by omega) (by omega)
      omega
open Classical in
theorem cnt_succ (F : Int → Prop) (k : Nat) : cnt F (k + 1) = cnt F k + if F (k : Int) then 1 else 0 := rfl
open Classical in
theorem sc_cnt {n more : Int} {m : Nat} {N U : List Int} (m1 : 1 ≤ m) (e0 : 0 ≤ more) (e1 : more < m) : ∀ (a b : Nat), b ≤ m → cnt (scF n m more N U) (a * m + b) = ((m : Int) - more) * cnt (Fst n N) a + more * cnt (Fst (n + 1) U) a + (if Fst (n + 1) U (a : Int) then min (b : Int) more else 0) + (if Fst n N (a : Int) then max 0 ((b : Int) - more) else 0) := by
  intro a
  induction a with
  | zero =>
    intro b
    induction b with
    | zero =>
      intro _
      rw [show 0 * m + 0 = 0 by omega]
      have z1 : cnt (scF n m more N U) 0 = 0 := rfl
      have z2 : cnt (Fst n N) 0 = 0 := rfl
      have z3 : cnt (Fst (n + 1) U) 0 = 0 := rfl
      rw [z1, z2, z3, Int.mul_zero, Int.mul_zero]
      split <;> split <;> omega
    | succ b ih =>
      intro hb
      have ih := ih (by omega)
      obtain ⟨p1, p2⟩ := place_at (a := ((0 : Nat) : Int)) (b := (b : Int)) (m := (m : Int)) (by omega) (by omega)
      rw [← Nat.add_assoc, cnt_succ (scF n m more N U), ih]
      have e : (((0 * m + b : Nat)) : Int) = ((0 : Nat) : Int) * (m : Int) + (b : Int) := by rw [Int.natCast_add, Int.natCast_mul]
      have sf : scF n m more N U ((0 * m + b : Nat) : Int) ↔ (if (b : Int) < more then Fst (n + 1) U ((0 : Nat) : Int) else Fst n N ((0 : Nat) : Int)) := by
        unfold scF
        rw [e, p1, p2]
      simp only [sf]
      by_cases q : (b : Int) < more
      · simp only [if_pos q]
        split <;> split <;> omega
      · simp only [if_neg q]
        split <;> split <;> omega
  | succ a iha =>
    intro b
    induction b with
    | zero =>
      intro _
      have h := iha m (Nat.le_refl _)
      rw [show (a + 1) * m + 0 = a * m + m by rw [Nat.add_mul]; omega, h]
      have c1 : cnt (Fst n N) (a + 1) = cnt (Fst n N) a + (if Fst n N (a : Int) then 1 else 0) := rfl
      have c2 : cnt (Fst (n + 1) U) (a + 1) = cnt (Fst (n + 1) U) a + (if Fst (n + 1) U (a : Int) then 1 else 0) := rfl
      rw [c1, c2, Int.mul_add, Int.mul_add]
      have z1 : (if Fst (n + 1) U ((a + 1 : Nat) : Int) then min ((0 : Nat) : Int) more else 0) = 0 := by split <;> omega
      have z2 : (if Fst n N ((a + 1 : Nat) : Int) then max 0 (((0 : Nat) : Int) - more) else 0) = 0 := by split <;> omega
      rw [z1, z2]
      generalize ((m : Int) - more) * cnt (Fst n N) a = X
      generalize more * cnt (Fst (n + 1) U) a = Y
      by_cases u : Fst (n + 1) U (a : Int) <;> by_cases v : Fst n N (a : Int) <;> simp only [if_pos, if_neg, u, v, not_false_eq_true, Int.mul_one, Int.mul_zero] <;> omega
    | succ b ih =>
      intro hb
      have ih := ih (by omega)
      obtain ⟨p1, p2⟩ := place_at (a := ((a + 1 : Nat) : Int)) (b := (b : Int)) (m := (m : Int)) (by omega) (by omega)
      rw [← Nat.add_assoc, cnt_succ (scF n m more N U), ih]
      have e : ((((a + 1) * m + b : Nat)) : Int) = ((a + 1 : Nat) : Int) * (m : Int) + (b : Int) := by rw [Int.natCast_add, Int.natCast_mul]
      have sf : scF n m more N U (((a + 1) * m + b : Nat) : Int) ↔ (if (b : Int) < more then Fst (n + 1) U ((a + 1 : Nat) : Int) else Fst n N ((a + 1 : Nat) : Int)) := by
        unfold scF
        rw [e, p1, p2]
      simp only [sf]
      generalize ((m : Int) - more) * cnt (Fst n N) (a + 1) = X
      generalize more * cnt (Fst (n + 1) U) (a + 1) = Y
      by_cases q : (b : Int) < more
      · simp only [if_pos q]
        split <;> split <;> omega
      · simp only [if_neg q]
        split <;> split <;> omega
/-! led rows -/
theorem cls_led {O : Int → Prop} {p n t : Int} {c : Int → Int} (p1 : 1 ≤ p) (n0 : 0 ≤ n) (pos : ∀ o, O o → 1 ≤ o) (h : Cls (fun q => q = p ∨ O q) n c t) : ∀ k : Nat, Cls (fun q => q = p ∨ ∃ o, O o ∧ q = o + ((k + 1 : Nat) : Int) * p) (n + ((k + 1 : Nat) : Int) * p) (stC p n t c) (t + max 0 (p - n))
  | 0 => by
    have := cls_step (P := fun q => q = p ∨ ∃ o, O o ∧ q = o + p) p1 n0 (.inl rfl) (.inl rfl) (fun q hq => by
      rcases hq with rfl | hq
      · exact p1
      · exact pos q hq) (fun q hq => by
      rcases hq with rfl | ⟨o, ho, rfl⟩
      · exact .inl rfl
      · refine .inr (.inr ?_)
        rw [show o + p - p = o by omega]
        exact ho) (fun q hq => by
      rcases hq with rfl | hq
      · exact .inl rfl
      · exact .inr (.inr ⟨q, hq, rfl⟩)) h
    rw [show ((0 + 1 : Nat) : Int) * p = p by omega]
    exact this
  | k + 1 => by
    have ih := cls_led p1 n0 pos h k
    have e : ((k + 1 + 1 : Nat) : Int) * p = ((k + 1 : Nat) : Int) * p + p := by rw [show ((k + 1 + 1 : Nat) : Int) = ((k + 1 : Nat) : Int) + 1 by omega, Int.add_mul, Int.one_mul]
    have ge : p ≤ ((k + 1 : Nat) : Int) * p := by
      have : 1 * p ≤ ((k + 1 : Nat) : Int) * p := Int.mul_le_mul_of_nonneg_right (by omega) (by omega)
      omega
    rw [e]
    generalize ((k + 1 : Nat) : Int) * p = x at ih ge ⊢
    have := cls_step (P := fun q => q = p ∨ ∃ o, O o ∧ q = o + (x + p)) p1 (by omega) (.inl rfl) (.inl rfl) (fun q hq => by
      rcases hq with rfl | ⟨o, ho, rfl⟩
      · exact p1
      · have := pos o ho
        omega) (fun q hq => by
      rcases hq with rfl | ⟨o, ho, rfl⟩
      · exact .inl rfl
      · exact .inr (.inr ⟨o, ho, by omega⟩)) (fun q hq => by
      rcases hq with rfl | ⟨o, ho, rfl⟩
      · exact .inl rfl
      · exact .inr (.inr ⟨o, ho, by omega⟩)) ih
    rw [Int.add_assoc] at this
    rw [show t + max 0 (p - n) + max 0 (p - (n + x)) = t + max 0 (p - n) by omega] at this
    refine this.congr (fun _ => Iff.rfl) (fun i i0 i1 => ?_) (fun q hq => by
      rcases hq with rfl | ⟨o, ho, rfl⟩
      · exact p1
      · have := pos o ho
        omega)
    have em := emod_le i0 p1
    have e2 : i % p % p = i % p := Int.emod_emod_of_dvd i (Int.dvd_refl p)
    show (if i % p < n + x then stC p n t c (i % p) else _) = _
    rw [if_pos (by omega)]
    unfold stC
    rw [e2]
end M
namespace M
/-- drawn numbers -/
def Dig (sizes row : List Int) : Prop := row.length = sizes.length ∧ ∀ k : Nat, k < sizes.length → 0 ≤ row.getD k 0 ∧ row.getD k 0 < sizes.getD k 0
theorem Dig.get {sizes row : List Int} {k : Nat} (h : Dig sizes row) (hk : k < sizes.length) : lGet row (k : Int) = .ok (row.getD k 0) := by
  rw [lGet_nat (by rw [h.1]; exact hk), List.getD_eq_getElem?_getD, List.getElem?_eq_getElem (by rw [h.1]; exact hk)]
  rfl
end M
namespace G
open PySem L2 M
theorem lmem {α : Type} {xs : List α} {k : Nat} {d : α} (h : k < xs.length) : xs.getD k d ∈ xs := by
  rw [List.getD_eq_getElem?_getD, List.getElem?_eq_getElem h]
  exact List.getElem_mem h
theorem dig_ok {cells : List Int} {place : Int} {sizes : List Int} (hp : 0 ≤ place ∧ place ≤ 1000) (hs : ∀ s ∈ sizes, 0 < s ∧ s ≤ 1000000000000000000) (hl : sizes.length ≤ 50) : Ok (m_law_dig cells place sizes) (Dig sizes) := by
  unfold m_law_dig
  refine ok_bind (ok_ret (ok_bind (ok_mono (Q := fun _ => True) ?_ ?_)))
  · refine ok_ite (fun e => ?_) (fun _ => ok_ret trivial)
    have e := of_decide_eq_true e
    exact ok_bind (ok_lGetE hp.1 (by omega) fun _ => ok_ret trivial)
  rintro cell -
  refine ok_bind (ok_ret (ok_bind (ok_ret (ok_bind (ok_rngR (by omega) (by omega) (ok_bind ?_))))))
  refine ok_forN (a := 0) (fun k (s : Int × List Int) => s.2.length = k ∧ ∀ j : Nat, j < k → 0 ≤ s.2.getD j 0 ∧ s.2.getD j 0 < sizes.getD j 0) (by omega) ⟨rfl, fun j h => absurd h (Nat.not_lt_zero _)⟩ ?_ ?_
  · rintro k ⟨left, row⟩ - hk ⟨h1, h2⟩
    dsimp only at h1 h2 ⊢
    refine ok_bind (ok_mono (Q := fun _ => True) ?_ ?_)
    · refine ok_ite (fun e => ?_) (fun _ => ok_ret trivial)
      have e := of_decide_eq_true e
      have cb : -1000000000000000000 < cell ∧ cell < 1000000000000000000 := by
        split at e <;> omega
      refine ok_bind (ok_bind (ok_bind (ok_bind (ok_bind (ok_bind (ok_mulB (by omega) (by omega) (ok_bind (ok_mulB (by omega) (by omega) (ok_ret ?_)))))))))
      refine ok_bind (ok_mulB (by omega) (by omega) (ok_ret ?_))
      refine ok_ret (ok_ret (ok_modI (by omega) ?_))
      have m1 := Int.emod_nonneg (cell * 48271 + place * 8191 + (k : Int) * 69621 + 40692) (show (2147483647 : Int) ≠ 0 by decide)
      have m2 := Int.emod_lt_of_pos (cell * 48271 + place * 8191 + (k : Int) * 69621 + 40692) (show (0 : Int) < 2147483647 by decide)
      generalize (cell * 48271 + place * 8191 + (k : Int) * 69621 + 40692) % 2147483647 = mixed at m1 m2 ⊢
      refine ok_bind (ok_bind (ok_bind (ok_bind (ok_bind (ok_bind (ok_mulB (by omega) (by omega) (ok_bind (ok_mulB (by omega) (by omega) (ok_ret ?_)))))))))
      refine ok_ret (ok_ret (ok_modI (by omega) (ok_divB (by omega) (by omega) (ok_ret trivial))))
    rintro lf -
    obtain ⟨s1, s2⟩ := hs _ (lmem (d := 0) hk)
    have gk : lGet sizes (k : Int) = .ok (sizes.getD k 0) := by
      rw [lGet_nat hk, List.getD_eq_getElem?_getD, List.getElem?_eq_getElem hk]
      rfl
    refine ok_bind (ok_bind (ok_eq gk (ok_modI s1 ?_)))
    have a1 := Int.emod_nonneg lf (show sizes.getD k 0 ≠ 0 by omega)
    have a2 := Int.emod_lt_of_pos lf s1
    refine ok_bind (ok_lApp (by omega) (ok_bind (ok_bind (ok_eq gk (ok_divB s1 (by omega) (ok_ret ?_))))))
    refine ⟨by rw [List.length_append]; simp only [List.length_cons, List.length_nil]; omega, fun j hj => ?_⟩
    rw [List.getD_eq_getElem?_getD]
    by_cases c : j < k
    · rw [List.getElem?_append_left (by omega), ← List.getD_eq_getElem?_getD]
      exact h2 j c
    · have e : j = k := by omega
      subst e
      rw [List.getElem?_append_right (by omega), h1, Nat.sub_self]
      exact ⟨a1, a2⟩
  · rintro ⟨left, row⟩ ⟨h1, h2⟩
    exact ok_ret ⟨h1, h2⟩

/-! the law's marks -/
theorem _root_.M.CI.congr {P : Int → Prop} {n : Int} {D D' : Int → Int → Prop} {marks : List Int} (h : CI P n D marks) (e : ∀ q x, D' q x → D q x) : CI P n D' marks := ⟨h.len, h.le, h.idem, fun q x hx => h.tie q x (e q x hx), h.uni⟩
theorem mkv_rng {n i : Int} (i0 : 0 ≤ i) (i1 : i < n) : mkv (rng 0 n) i = i := by
  unfold mkv rng
  rw [List.getD_eq_getElem?_getD, List.getElem?_map, List.getElem?_range (by omega)]
  show (0 : Int) + (i.toNat : Int) = i
  omega
theorem closing_ok {ps : List Int} {n : Int} (n0 : 0 ≤ n) (n1 : n ≤ 1000) (hp : ∀ p ∈ ps, 1 ≤ p ∧ p ≤ 1000) : Ok (m_law_closing ps n) (Mks (· ∈ ps) n) := by
  unfold m_law_closing
  refine ok_bind (ok_ret (ok_bind (ok_rngL (by omega) (ok_bind ?_))))
  have bnd : ∀ {D' : List Int} , (∀ p ∈ D', p ∈ ps) → ∀ q x, (q ∈ D' ∧ 0 ≤ x ∧ x + q < n) → 0 ≤ x ∧ x < n ∧ 0 ≤ x + q ∧ x + q < n := fun {D'} sub q x h => by
    have := hp q (sub q h.1)
    omega
  refine ok_forA (fun done marks => (∀ p ∈ done, p ∈ ps) ∧ CI (· ∈ ps) n (fun q x => q ∈ done ∧ 0 ≤ x ∧ x + q < n) marks) ⟨fun p h => (by cases h), ?_⟩ ?_ ?_
  · refine ⟨by rw [rng_len]; omega, fun i i0 i1 => by rw [mkv_rng i0 i1]; omega, fun i i0 i1 => by rw [mkv_rng i0 i1, mkv_rng i0 i1], fun q x h => (by cases h.1), fun f hf i j i0 i1 j0 j1 e => ?_⟩
    rw [mkv_rng i0 i1, mkv_rng j0 j1] at e
    rw [e]
  · rintro done p rest marks e ⟨sub, h⟩
    have pm : p ∈ ps := by rw [e]; simp
    have sub2 : ∀ q ∈ done ++ [p], q ∈ ps := fun q hq => by
      rcases List.mem_append.mp hq with z | z
      · exact sub q z
      · have z : q = p := by simpa using z
        rw [z]; exact pm
    obtain ⟨p1, p2⟩ := hp p pm
    have fin : ∀ marks, CI (· ∈ ps) n (fun q x => (q ∈ done ∧ 0 ≤ x ∧ x + q < n) ∨ (q = p ∧ 0 ≤ x ∧ x < n - p)) marks → CI (· ∈ ps) n (fun q x => q ∈ done ++ [p] ∧ 0 ≤ x ∧ x + q < n) marks := fun marks k => k.congr fun q x hx => by
      rcases List.mem_append.mp hx.1 with z | z
      · exact .inl ⟨z, hx.2⟩
      · have z : q = p := by simpa using z
        subst z
        exact .inr ⟨rfl, by omega, by omega⟩
    dsimp only
    refine ok_bind (ok_rngR (by omega) (by omega) (ok_bind ?_))
    by_cases c : n - p ≤ 0
    · rw [rng_nil c]
      refine ⟨marks, forS_nil, ok_ret ⟨sub2, fin marks (h.congr fun q x hx => ?_)⟩⟩
      rcases hx with hx | hx
      · exact hx
      · omega
    refine ok_forS (fun k marks => 0 ≤ k ∧ CI (· ∈ ps) n (fun q x => (q ∈ done ∧ 0 ≤ x ∧ x + q < n) ∨ (q = p ∧ 0 ≤ x ∧ x < k)) marks) (by omega) ⟨by omega, h.congr fun q x hx => hx.elim id fun z => by omega⟩ ?_ ?_
    · rintro k marks k0 k1 ⟨_, h⟩
      have ln := h.len
      have g1 : lGet marks k = .ok (mkv marks k) := mk_get k0 (by omega)
      have g2 : lGet marks (k + p) = .ok (mkv marks (k + p)) := mk_get (by omega) (by omega)
      refine ok_bind (ok_bind (ok_eq g1 (ok_bind (ok_eq g2 (ok_ret ?_)))))
      have bd : ∀ q x, ((q ∈ done ∧ 0 ≤ x ∧ x + q < n) ∨ (q = p ∧ 0 ≤ x ∧ x < k)) → 0 ≤ x ∧ x < n ∧ 0 ≤ x + q ∧ x + q < n := fun q x hx => by
        rcases hx with hx | hx
        · exact bnd sub q x hx
        · omega
      by_cases ne : mkv marks k = mkv marks (k + p)
      · rw [decide_eq_true ne]
        refine ok_bind (ok_ff (ok_ret (ok_ret ⟨by omega, h.len, h.le, h.idem, fun q x hx => ?_, h.uni⟩)))
        rcases hx with hx | ⟨rfl, x0, x1⟩
        · exact h.tie q x (.inl hx)
        · by_cases e : x = k
          · rw [e]; exact ne
          · exact h.tie _ x (.inr ⟨rfl, x0, by omega⟩)
      · rw [decide_eq_false ne]
        have j := h.join bd pm p1 k0 (by omega) ne
        refine ok_bind (ok_tt (ok_bind (ok_bind (ok_eq g1 (ok_bind (ok_eq g2 (ok_ret ?_)))))))
        refine ok_bind (ok_bind (ok_eq g1 (ok_bind (ok_eq g2 (ok_ret ?_)))))
        refine ok_bind (ok_lcM (g := fun m => if m = max (mkv marks k) (mkv marks (k + p)) then min (mkv marks k) (mkv marks (k + p)) else m) (by omega) (fun x _ => ok_ret ?_) (ok_ret (ok_ret ⟨by omega, j.congr fun q x hx => ?_⟩)))
        · by_cases c : x = max (mkv marks k) (mkv marks (k + p)) <;> simp [c]
        · rcases hx with hx | ⟨rfl, x0, x1⟩
          · exact .inl (.inl hx)
          · by_cases e : x = k
            · exact .inr ⟨rfl, e⟩
            · exact .inl (.inr ⟨rfl, x0, by omega⟩)
    · rintro marks ⟨_, h⟩
      exact ok_ret ⟨sub2, fin marks h⟩
  · rintro marks ⟨_, h⟩
    exact ok_ret ⟨h.len, h.le, h.idem, fun p hp2 i i0 i1 => h.tie p i ⟨hp2, i0, i1⟩, h.uni⟩
noncomputable def FL (n : Int) (marks : List Int) : List Int := (rng 0 n).filter fun t => decide (mkv marks t = t)
theorem mem_FL {n a : Int} {marks : List Int} : a ∈ FL n marks ↔ Fst n marks a := by
  unfold FL Fst
  rw [List.mem_filter, mem_rng]
  constructor
  · rintro ⟨⟨x, y⟩, z⟩; exact ⟨x, y, of_decide_eq_true z⟩
  · rintro ⟨x, y, z⟩; exact ⟨⟨x, y⟩, decide_eq_true z⟩
theorem rng_succ (k : Nat) : rng 0 ((k + 1 : Nat) : Int) = rng 0 (k : Int) ++ [(k : Int)] := by
  unfold rng
  have e1 : (((k + 1 : Nat) : Int) - 0).toNat = k + 1 := by omega
  have e2 : ((k : Int) - 0).toNat = k := by omega
  rw [e1, e2, List.range_succ, List.map_append]
  congr 1
  show [(0 : Int) + (k : Int)] = _
  rw [Int.zero_add]
theorem cnt_rng (G : Int → Bool) : ∀ k : Nat, ((((rng 0 (k : Int)).filter G).length : Nat) : Int) = cnt (fun a => G a = true) k
  | 0 => by
    rw [rng_nil (by omega)]
    rfl
  | k + 1 => by
    rw [rng_succ, List.filter_append, List.length_append, Int.natCast_add, cnt_rng G k, cnt_succ]
    congr 1
    by_cases c : G (k : Int) = true
    · rw [if_pos c, List.filter_cons_of_pos c]
      rfl
    · rw [if_neg c, List.filter_cons_of_neg c]
      rfl
theorem FL_len {n : Int} {marks : List Int} (n0 : 0 ≤ n) : (((FL n marks).length : Nat) : Int) = cnt (Fst n marks) n.toNat := by
  obtain ⟨k, rfl⟩ : ∃ k : Nat, n = (k : Int) := ⟨n.toNat, by omega⟩
  unfold FL
  rw [cnt_rng, Int.toNat_natCast]
  refine cnt_congr k fun a ha => ?_
  unfold Fst
  constructor
  · intro z; exact ⟨by omega, by omega, of_decide_eq_true z⟩
  · rintro ⟨_, _, z⟩; exact decide_eq_true z
theorem FL_below {n f : Int} {marks : List Int} (f0 : 0 ≤ f) (f1 : f ≤ n) : ((((FL n marks).filter fun t => decide (t < f)).length : Nat) : Int) = cnt (Fst n marks) f.toNat := by
  obtain ⟨k, rfl⟩ : ∃ k : Nat, n = (k : Int) := ⟨n.toNat, by omega⟩
  obtain ⟨j, rfl⟩ : ∃ j : Nat, f = (j : Int) := ⟨f.toNat, by omega⟩
  unfold FL
  rw [List.filter_filter, cnt_rng, Int.toNat_natCast, ← cnt_cut (Fst (k : Int) marks) j k (by omega)]
  refine cnt_congr k fun a ha => ?_
  unfold Fst
  rw [Bool.and_eq_true]
  constructor
  · rintro ⟨y, z⟩; exact ⟨⟨by omega, by omega, of_decide_eq_true z⟩, of_decide_eq_true y⟩
  · rintro ⟨⟨_, _, z⟩, y⟩; exact ⟨decide_eq_true y, decide_eq_true z⟩
theorem firsts_ok {marks : List Int} {n : Int} (ln : (marks.length : Int) = n) (n1 : n ≤ 1000) : m_law_firsts marks = .ok (FL n marks) := by
  refine Ok.get (α := List Int) ?_
  unfold m_law_firsts
  rw [ln]
  have rl : (rng 0 n).length = n.toNat := by rw [rng_len]; omega
  refine ok_bind (ok_rngR (by omega) (by omega) (ok_bind ?_))
  refine ok_lcR (p := fun t => decide (mkv marks t = t)) (g := fun t => t) (by omega) (fun x hx => ?_) (fun x _ => ok_ret rfl) ?_
  · have := mem_rng.mp hx
    exact ok_bind (ok_bind (ok_eq (mk_get this.1 (by omega)) (ok_ret (ok_ret rfl))))
  · rw [List.map_id']
    exact ok_ret rfl
theorem FL_small {marks : List Int} {n : Int} (n1 : n ≤ 1000) : (FL n marks).length ≤ 1000 := by
  unfold FL
  refine Nat.le_trans (List.length_filter_le _ _) ?_
  rw [rng_len]
  omega
theorem below_ok {xs : List Int} {f : Int} (h : xs.length ≤ 1000) : m_law_below xs f = .ok (((xs.filter fun t => decide (t < f)).length : Nat) : Int) := by
  refine Ok.get (α := Int) ?_
  unfold m_law_below
  refine ok_bind (ok_lcR (p := fun t => decide (t < f)) (g := fun t => t) (by omega) (fun x _ => ok_ret rfl) (fun x _ => ok_ret rfl) (ok_ret ?_))
  rw [List.map_id']
/-- the table of a scale -/
structure Tab (ps : List Int) (n m more : Int) (tab : ML4 Int Int (List Int) (List Int)) : Prop where
  a : tab.a = m
  b : tab.b = more
  c : Mks (· ∈ ps) n tab.c
  d : Mks (· ∈ ps) (n + 1) tab.d
  n0 : 0 ≤ n
  n1 : n ≤ 100
  m1 : 1 ≤ m
  m2 : m ≤ 100000000000000000
  e0 : 0 ≤ more
  e1 : more < m
  pos : ∀ p ∈ ps, 1 ≤ p
theorem table_ok {ps : List Int} {n m more : Int} (n0 : 0 ≤ n) (n1 : n ≤ 100) (m1 : 1 ≤ m) (m2 : m ≤ 100000000000000000) (e0 : 0 ≤ more) (e1 : more < m) (hp : ∀ p ∈ ps, 1 ≤ p ∧ p ≤ 1000) : Ok (m_law_table ps n m more) (Tab ps n m more) := by
  unfold m_law_table
  refine ok_bind (ok_mono (closing_ok n0 (by omega) hp) fun c hc => ok_bind (ok_mono (closing_ok (by omega) (by omega) hp) fun d hd => ok_ret ⟨rfl, rfl, hc, hd, n0, n1, m1, m2, e0, e1, fun p h => (hp p h).1⟩))
noncomputable def tabC (n m more : Int) (tab : ML4 Int Int (List Int) (List Int)) : Int → Int := fun x => cnt (scF n m more tab.c tab.d) (scM m more tab.c tab.d x).toNat
noncomputable def tabT (n m more : Int) (tab : ML4 Int Int (List Int) (List Int)) : Int := cnt (scF n m more tab.c tab.d) (m * n + more).toNat
theorem Tab.cls {ps : List Int} {n m more : Int} {tab : ML4 Int Int (List Int) (List Int)} (h : Tab ps n m more tab) : Cls (fun p => ∃ q, q ∈ ps ∧ p = m * q) (m * n + more) (tabC n m more tab) (tabT n m more tab) := by
  have mn : 0 ≤ m * n := Int.mul_nonneg (by have := h.m1; omega) h.n0
  have e0 := h.e0
  exact (sc_mark h.m1 h.e0 h.e1 h.pos h.c h.d).cls (by omega) (sc_first (P := (· ∈ ps)) h.m1 h.e0 h.e1)
theorem Tab.cntB {n : Int} {marks : List Int} (F : Int → Prop) : ∀ k : Nat, 0 ≤ cnt F k ∧ cnt F k ≤ k
  | 0 => ⟨Int.le_refl _, Int.le_refl _⟩
  | k + 1 => by
    have := Tab.cntB (n := n) (marks := marks) F k
    rw [cnt_succ]
    split <;> omega
open Classical in
theorem total_ok {ps : List Int} {n m more : Int} {tab : ML4 Int Int (List Int) (List Int)} (h : Tab ps n m more tab) : m_law_total tab = .ok (tabT n m more tab) := by
  refine Ok.get (α := Int) ?_
  have n0 := h.n0
  have n1 := h.n1
  have m1 := h.m1
  have m2 := h.m2
  have e0 := h.e0
  have e1 := h.e1
  unfold m_law_total
  have s1 := FL_small (marks := tab.c) (n := n) (by omega)
  have s2 := FL_small (marks := tab.d) (n := n + 1) (by omega)
  refine ok_bind (ok_eq (firsts_ok h.c.len (by omega)) (ok_bind (ok_ret (ok_bind ?_))))
  rw [h.a, h.b]
  refine ok_mulB (by omega) (by omega) (ok_bind (ok_eq (firsts_ok h.d.len (by omega)) (ok_bind (ok_ret (ok_bind (ok_mulB (by omega) (by omega) (ok_bind (ok_ret (ok_ret ?_)))))))))
  rw [FL_len n0, FL_len (by omega)]
  unfold tabT
  obtain ⟨k, rfl⟩ : ∃ k : Nat, n = (k : Int) := ⟨n.toNat, by omega⟩
  obtain ⟨j, rfl⟩ : ∃ j : Nat, m = (j : Int) := ⟨m.toNat, by omega⟩
  obtain ⟨b, rfl⟩ : ∃ b : Nat, more = (b : Int) := ⟨more.toNat, by omega⟩
  have e : ((j : Int) * (k : Int) + (b : Int)).toNat = k * j + b := by
    have : (j : Int) * (k : Int) + (b : Int) = ((k * j + b : Nat) : Int) := by rw [Int.natCast_add, Int.natCast_mul, Int.mul_comm]
    omega
  rw [e, sc_cnt (by omega) (by omega) e1 k b (by omega), Int.toNat_natCast]
  have e2 : ((k : Int) + 1).toNat = k + 1 := by omega
  rw [e2, cnt_succ (Fst ((k : Int) + 1) tab.d)]
  have v : (if Fst (k : Int) tab.c (k : Int) then max 0 ((b : Int) - (b : Int)) else 0) = 0 := by split <;> omega
  rw [v, Int.mul_sub, Int.mul_add, Int.sub_mul]
  by_cases u : Fst ((k : Int) + 1) tab.d (k : Int)
  · rw [if_pos u, if_pos u]
    omega
  · rw [if_neg u, if_neg u]
    omega
open Classical in
theorem code_ok {ps : List Int} {n m more x : Int} {tab : ML4 Int Int (List Int) (List Int)} (h : Tab ps n m more tab) (x0 : 0 ≤ x) (x1 : x < m * n + more) : m_law_code tab x = .ok (tabC n m more tab x) := by
  refine Ok.get (α := Int) ?_
  have n0 := h.n0
  have n1 := h.n1
  have m1 := h.m1
  have m2 := h.m2
  have e0 := h.e0
  have e1 := h.e1
  obtain ⟨p1, p2, p3, p4⟩ := place_of m1 x0
  have s1 := FL_small (marks := tab.c) (n := n) (by omega)
  have s2 := FL_small (marks := tab.d) (n := n + 1) (by omega)
  unfold m_law_code
  rw [h.a, h.b]
  rw [Int.mul_comm] at x1
  refine ok_bind (ok_ret (ok_bind (ok_ret (ok_bind (ok_modI (by omega) ?_)))))
  obtain ⟨V, k, hV, eV, eM, kb, kle⟩ : ∃ (V : List Int) (k : Int), Mks (· ∈ ps) k V ∧ V = (if x % m < more then tab.d else tab.c) ∧ scM m more tab.c tab.d x = mkv V (x / m) * m + x % m ∧ x / m < k ∧ k ≤ n + 1 := by
    by_cases c : x % m < more
    · refine ⟨tab.d, n + 1, h.d, by rw [if_pos c], by unfold scM; rw [if_pos c], ?_, by omega⟩
      by_cases z : x / m < n + 1
      · exact z
      · have : (n + 1) * m ≤ (x / m) * m := Int.mul_le_mul_of_nonneg_right (by omega) (by omega)
        rw [Int.add_mul, Int.one_mul] at this
        omega
    · refine ⟨tab.c, n, h.c, by rw [if_neg c], by unfold scM; rw [if_neg c], ?_, by omega⟩
      by_cases z : x / m < n
      · exact z
      · have : n * m ≤ (x / m) * m := Int.mul_le_mul_of_nonneg_right (by omega) (by omega)
        omega
  refine ok_bind (ok_mono (Q := fun v => v = V) (ok_ite (fun c => ok_ret ?_) (fun c => ok_ret ?_)) ?_)
  · rw [eV, if_pos (of_decide_eq_true c)]
  · rw [eV, if_neg (of_decide_eq_false c)]
  rintro W rfl
  have vl := hV.len
  have le := hV.mf.le _ p2 kb
  dsimp only
  refine ok_bind (ok_bind (ok_divB (by omega) (by omega) (ok_eq (mk_get p2 (by omega)) ?_)))
  unfold tabC
  rw [eM]
  generalize x % m = b at p3 p4 ⊢
  generalize mkv W (x / m) = a at le ⊢
  obtain ⟨a0, a1⟩ := le
  have an : a ≤ n := by omega
  refine ok_bind (ok_eq (firsts_ok h.c.len (by omega)) (ok_bind (ok_eq (firsts_ok h.d.len (by omega)) ?_)))
  have l1 := Nat.le_trans (List.length_filter_le (fun t => decide (t < a)) (FL n tab.c)) s1
  have l2 := Nat.le_trans (List.length_filter_le (fun t => decide (t < a)) (FL (n + 1) tab.d)) s2
  refine ok_bind (ok_eq (below_ok s1) (ok_bind (ok_mulB (by omega) (by omega) (ok_bind (ok_eq (below_ok s2) (ok_bind (ok_mulB (by omega) (by omega) (ok_bind (ok_ret (ok_bind (ok_bind (ok_ret (ok_ret ?_)))))))))))))
  rw [FL_below a0 an, FL_below a0 (by omega)]
  obtain ⟨A, rfl⟩ : ∃ A : Nat, a = (A : Int) := ⟨a.toNat, by omega⟩
  obtain ⟨j, rfl⟩ : ∃ j : Nat, m = (j : Int) := ⟨m.toNat, by omega⟩
  obtain ⟨B, rfl⟩ : ∃ B : Nat, b = (B : Int) := ⟨b.toNat, by omega⟩
  have e : ((A : Int) * (j : Int) + (B : Int)).toNat = A * j + B := by
    have : (A : Int) * (j : Int) + (B : Int) = ((A * j + B : Nat) : Int) := by rw [Int.natCast_add, Int.natCast_mul]
    omega
  rw [e, sc_cnt (by omega) e0 e1 A B (by omega), Int.toNat_natCast]
  refine ok_bind (ok_mono (Q := fun v => v = ((j : Int) - more) * cnt (Fst n tab.c) A + more * cnt (Fst (n + 1) tab.d) A + (if Fst (n + 1) tab.d (A : Int) then min (B : Int) more else 0)) (ok_ite (fun c => ?_) (fun c => ?_)) ?_)
  · have c := mem_FL.mp (of_decide_eq_true c)
    rw [if_pos c]
    exact ok_bind (ok_ret (ok_ret rfl))
  · have c : ¬ Fst (n + 1) tab.d (A : Int) := fun z => of_decide_eq_false c (mem_FL.mpr z)
    rw [if_neg c]
    exact ok_ret (by omega)
  rintro _ rfl
  refine ok_bind (ok_bind (ok_ret (ok_ret ?_)))
  refine ok_bind (ok_mono (Q := fun v => v = ((j : Int) - more) * cnt (Fst n tab.c) A + more * cnt (Fst (n + 1) tab.d) A + (if Fst (n + 1) tab.d (A : Int) then min (B : Int) more else 0) + (if Fst n tab.c (A : Int) then max 0 ((B : Int) - more) else 0)) (ok_ite (fun c => ?_) (fun c => ?_)) ?_)
  · have c := mem_FL.mp (of_decide_eq_true c)
    rw [if_pos c]
    exact ok_bind (ok_ret (ok_ret rfl))
  · have c : ¬ Fst n tab.c (A : Int) := fun z => of_decide_eq_false c (mem_FL.mpr z)
    rw [if_neg c]
    exact ok_ret (by omega)
  rintro _ rfl
  exact ok_ret rfl
end G
namespace G
open PySem L2 M
theorem mem_set_iff {xs : List Int} {i : Nat} {v q : Int} (hi : i < xs.length) : q ∈ xs.set i v ↔ q = v ∨ q ∈ xs.eraseIdx i := by
  rw [List.mem_eraseIdx_iff_getElem?, List.mem_iff_getElem?]
  constructor
  · rintro ⟨j, hj⟩
    rw [List.getElem?_set] at hj
    by_cases e : i = j
    · rw [if_pos e, if_pos (by omega)] at hj
      exact .inl (Option.some.inj hj).symm
    · rw [if_neg e] at hj
      exact .inr ⟨j, fun z => e z.symm, hj⟩
  · rintro (rfl | ⟨j, ne, hj⟩)
    · exact ⟨i, by rw [List.getElem?_set, if_pos rfl, if_pos hi]⟩
    · exact ⟨j, by rw [List.getElem?_set, if_neg (fun z => ne z.symm)]; exact hj⟩
theorem mem_erase_iff {xs : List Int} {i : Nat} {q : Int} (hi : i < xs.length) : q ∈ xs ↔ q = xs[i] ∨ q ∈ xs.eraseIdx i := by
  rw [← mem_set_iff hi, List.set_getElem_self]
theorem erase_map (f : Int → Int) : ∀ (l : List Int) (j : Nat), (l.map f).eraseIdx j = (l.eraseIdx j).map f
  | [], j => by simp
  | a :: r, 0 => by simp
  | a :: r, j + 1 => by
    have ih := erase_map f r j
    simp [ih]
theorem max_spec {xs : List Int} (ne : xs ≠ []) : ∃ m, maxI xs = .ok m ∧ m ∈ xs ∧ ∀ y ∈ xs, y ≤ m := by
  cases xs with
  | nil => exact absurd rfl ne
  | cons x xs =>
    obtain ⟨a, b, c⟩ := maxF_le xs x
    exact ⟨_, rfl, c.elim (fun e => by rw [e]; exact List.mem_cons_self) (List.mem_cons_of_mem _), fun y hy => (List.mem_cons.mp hy).elim (fun e => by rw [e]; exact a) (b y)⟩
theorem min_spec {xs : List Int} (ne : xs ≠ []) : ∃ m, minI xs = .ok m ∧ m ∈ xs ∧ ∀ y ∈ xs, m ≤ y := by
  cases xs with
  | nil => exact absurd rfl ne
  | cons x xs =>
    obtain ⟨a, b, c⟩ := minF_le xs x
    exact ⟨_, rfl, c.elim (fun e => by rw [e]; exact List.mem_cons_self) (List.mem_cons_of_mem _), fun y hy => (List.mem_cons.mp hy).elim (fun e => by rw [e]; exact a) (b y)⟩

theorem number_ok (a : Int) : m_law_number a a = .ok true := by
  unfold m_law_number
  rw [decide_eq_true rfl]
  rfl
theorem class_nil (tab : ML4 Int Int (List Int) (List Int)) (x : Int) : m_law_class tab [] x = m_law_code tab x := by
  unfold m_law_class
  rw [Res.bind_ok, List.reverse_nil, forR_nil, Res.bind_ok]
  show Res.bind (m_law_code tab x) (fun t => .ok t) = _
  cases m_law_code tab x <;> rfl
theorem class_snoc (tab : ML4 Int Int (List Int) (List Int)) (steps : List (List Int)) {p s ct x : Int} (p1 : 1 ≤ p) : m_law_class tab (steps ++ [[p, s, ct]]) x = if x % p < s then m_law_class tab steps (x % p) else .ok (ct + x % p - s) := by
  have a0 : lGet [p, s, ct] (0 : Int) = .ok p := lGet_nat (xs := [p, s, ct]) (k := 0) (by simp)
  have a1 : lGet [p, s, ct] (1 : Int) = .ok s := lGet_nat (xs := [p, s, ct]) (k := 1) (by simp)
  have a2 : lGet [p, s, ct] (2 : Int) = .ok ct := lGet_nat (xs := [p, s, ct]) (k := 2) (by simp)
  have am : modI x p = .ok (x % p) := modI_ok (by omega)
  unfold m_law_class
  rw [Res.bind_ok, List.reverse_append, List.reverse_singleton, List.singleton_append, forR_cons]
  simp only [a0, a1, a2, Res.bind_ok, am]
  by_cases c : x % p < s
  · rw [decide_eq_false (show ¬ x % p ≥ s by omega), if_neg (by decide), if_pos c]
    rfl
  · rw [decide_eq_true (show x % p ≥ s by omega), if_pos rfl, if_neg c]
    rfl
structure Kn (ps : List Int) (n total : Int) (tab : ML4 Int Int (List Int) (List Int)) (steps : List (List Int)) (c : Int → Int) : Prop where
  pok : POk ps
  n0 : 0 ≤ n
  n1 : n ≤ 1000000000000000000
  cls : Cls (· ∈ ps) n c total
  run : ∀ x, 0 ≤ x → x < n → m_law_class tab steps x = .ok (c x)
theorem asked_ok {ps row : List Int} {n total : Int} {tab : ML4 Int Int (List Int) (List Int)} {steps : List (List Int)} {c : Int → Int} (h : Kn ps n total tab steps c) (hr : row.length ≤ 1000) : m_law_asked ⟨ps⟩ n total tab steps row = .ok true := by
  refine Ok.get (α := Bool) ?_
  have n0 := h.n0
  have n1 := h.n1
  unfold m_law_asked
  refine ok_bind (ok_eq (count_ok h.pok h.n0 h.n1 h.cls) (ok_bind (ok_eq (number_ok _) (ok_nt ?_))))
  refine ok_bind (ok_mono (Q := fun l : List Int => ∀ x ∈ l, 0 ≤ x ∧ x < n) ?_ ?_)
  · unfold m_law_places
    refine ok_ite (fun e => ?_) (fun e => ?_)
    · have e := of_decide_eq_true e
      exact ok_bind (ok_ret (ok_bind (ok_rngL (by omega) (ok_ret fun x hx => mem_rng.mp hx))))
    · have e := of_decide_eq_false e
      have d0 : 0 ≤ n / 2 := Int.ediv_nonneg n0 (by omega)
      have d1 : n / 2 < n := by omega
      refine ok_bind (ok_divB (by omega) (by omega) (ok_bind (ok_ret (ok_bind ?_))))
      refine ok_forL (fun ys (f : List Int) => f.length + 2 * ys.length ≤ 4 + 2 * row.length ∧ ∀ x ∈ f, 0 ≤ x ∧ x < n) ⟨by simp, fun x hx => ?_⟩ ?_ ?_
      · simp only [List.mem_cons, List.not_mem_nil, or_false] at hx
        omega
      · rintro d ys f ⟨hl, hf⟩
        rw [List.length_cons] at hl
        have a0 := Int.emod_nonneg d (show n ≠ 0 by omega)
        have a1 := Int.emod_lt_of_pos d (show 0 < n by omega)
        have b0 := Int.emod_nonneg d (show (60 : Int) ≠ 0 by omega)
        have b1 := Int.emod_lt_of_pos d (show (0 : Int) < 60 by omega)
        refine ok_bind (ok_modI (by omega) (ok_bind (ok_lApp (by omega) (ok_bind (ok_modI (by omega) (ok_bind (ok_lApp (by rw [List.length_append]; simp only [List.length_cons, List.length_nil]; omega) (ok_ret ⟨?_, fun x hx => ?_⟩))))))))
        · rw [List.length_append, List.length_append]
          simp only [List.length_cons, List.length_nil]
          omega
        · rcases List.mem_append.mp hx with q | q
          · rcases List.mem_append.mp q with q | q
            · exact hf x q
            · have q : x = d % n := by simpa using q
              omega
          · have q : x = d % 60 := by simpa using q
            omega
      · rintro f ⟨_, hf⟩
        exact ok_ret hf
  intro l hl
  refine ok_bind (ok_forRL (fun ys _ => ∀ x ∈ ys, 0 ≤ x ∧ x < n) (fun _ => False) (fun _ => False) hl ?_ ?_ ?_ ?_)
  · rintro x ys _ hx
    obtain ⟨x0, x1⟩ := hx x List.mem_cons_self
    exact ok_bind (ok_eq (h.run x x0 x1) (ok_bind (ok_eq (of_ok h.pok h.n1 x0 x1 h.cls) (ok_bind (ok_eq (number_ok _) (ok_nt (ok_ret fun y hy => hx y (List.mem_cons_of_mem _ hy))))))))
  rotate_left 1
  · exact fun _ h => h.elim
  · exact fun _ h => h.elim
  rintro _ -
  exact ok_bind (ok_eq (count_ok h.pok h.n0 h.n1 h.cls) (ok_bind (ok_eq (number_ok _) (ok_ret rfl))))
theorem led_ok {ps cells : List Int} {n total rounds : Int} {tab : ML4 Int Int (List Int) (List Int)} {c : Int → Int} (h : Kn ps n total tab [] c) (r0 : 0 ≤ rounds) (r1 : rounds ≤ 5) : Ok (m_law_led_on cells ps n total rounds) fun r => ∃ c', Kn r.a r.b r.c tab r.d c' := by
  unfold m_law_led_on
  refine ok_bind (ok_ret (ok_bind (ok_ret (ok_bind (ok_ret (ok_bind (ok_rngR (by omega) (by omega) (ok_bind ?_))))))))
  refine ok_forS (fun k (s : List Int × Int × Int × List (List Int)) => 0 ≤ k ∧ (s.2.2.2.length : Int) ≤ k ∧ ∃ c', Kn s.1 s.2.1 s.2.2.1 tab s.2.2.2 c') (by omega) ⟨by omega, by simp, c, h⟩ ?_ ?_
  · rintro k ⟨rows, size, count, steps⟩ k0 k1 ⟨_, hst, c', hr⟩
    dsimp only at hst hr ⊢
    have n0 := List.length_pos_iff.mpr hr.pok.ne
    have n6 := hr.pok.len
    have s0 := hr.n0
    have s1' := hr.n1
    refine ok_bind (ok_mono (dig_ok (by omega) (fun s hs => ?_) (by show 4 ≤ 50; omega)) ?_)
    · simp only [List.mem_cons, List.not_mem_nil, or_false] at hs
      rcases hs with rfl | rfl | rfl | rfl <;> omega
    intro row hd
    have rg : ∀ k : Nat, k < 4 → lGet row (k : Int) = .ok (row.getD k 0) := fun k hk => hd.get hk
    have d0 := hd.2 0 (by show 0 < 4; omega)
    have d2 := hd.2 2 (by show 2 < 4; omega)
    have d3 := hd.2 3 (by show 3 < 4; omega)
    have e0 : row.getD 0 0 < (rows.length : Int) := d0.2
    have e2 : row.getD 2 0 < 1000000000 := d2.2
    have e3 : row.getD 3 0 < 1000000000 := d3.2
    have d00 := d0.1
    have d20 := d2.1
    have d30 := d3.1
    refine ok_bind (ok_bind (ok_eq (rg 0 (by omega)) (ok_lGetE d00 e0 fun hx => ?_)))
    have pm : rows[(row.getD 0 0).toNat]'hx ∈ rows := List.getElem_mem hx
    have s1 : ∀ q, q ∈ rows ↔ q = rows[(row.getD 0 0).toNat]'hx ∨ q ∈ rows.eraseIdx (row.getD 0 0).toNat := fun q => mem_erase_iff hx
    generalize rows[(row.getD 0 0).toNat]'hx = p at pm s1 ⊢
    obtain ⟨p1, p2⟩ := hr.pok.rg p pm
    have ne2 : rows ++ [size] ≠ [] := by simp
    obtain ⟨mx, emx, mmx, lmx⟩ := max_spec ne2
    have mxb : 1 ≤ mx ∧ mx ≤ 1000000000000000000 := by
      have := lmx p (List.mem_append_left _ pm)
      rcases List.mem_append.mp mmx with q | q
      · have := hr.pok.rg mx q
        omega
      · have q : mx = size := by simpa using q
        omega
    have sz : size ≤ mx := lmx size (by simp)
    refine ok_bind (ok_lCat (by simp; omega) (ok_bind (ok_eq emx (ok_bind (ok_ret (ok_bind (ok_divB (by omega) (by omega) ?_)))))))
    have rm := Int.mul_ediv_self_le (x := 1000000000000000000 - mx) (k := p) (by omega)
    have rm2 : (1000000000000000000 - mx) / p ≤ 1000000000000000000 - mx := Int.ediv_le_self _ (by omega)
    generalize (1000000000000000000 - mx) / p = room at rm rm2 ⊢
    refine ok_bind (ok_mono (Q := fun s : List Int × Int × Int × List (List Int) => (s.2.2.2.length : Int) ≤ k + 1 ∧ ∃ c', Kn s.1 s.2.1 s.2.2.1 tab s.2.2.2 c') (ok_ite (fun cx => ?_) (fun _ => ok_ret ⟨by dsimp only; omega, c', hr⟩)) fun s hs => ok_ret ⟨by omega, hs⟩)
    have cc := of_decide_eq_true cx
    refine ok_bind (ok_bind (ok_bind (ok_bind (ok_bind (ok_eq (rg 2 (by omega)) (ok_mulB (by omega) (by omega) (ok_bind (ok_eq (rg 3 (by omega)) (ok_ret ?_)))))))))
    refine ok_modI (by omega) (ok_ret ?_)
    have a0 := Int.emod_nonneg (row.getD 2 0 * 1000000000 + row.getD 3 0) (show room ≠ 0 by omega)
    have a1 := Int.emod_lt_of_pos (row.getD 2 0 * 1000000000 + row.getD 3 0) (show 0 < room by omega)
    refine ok_bind (ok_bind (ok_eq (rg 1 (by omega)) (ok_ret ?_)))
    refine ok_bind (ok_mono (Q := fun t : Int => 1 ≤ t ∧ t ≤ room) (ok_ite (fun _ => ?_) (fun _ => ok_ret (by omega))) ?_)
    · have b0 := Int.emod_nonneg (row.getD 2 0) (show min room 3 ≠ 0 by omega)
      have b1 := Int.emod_lt_of_pos (row.getD 2 0) (show 0 < min room 3 by omega)
      exact ok_bind (ok_bind (ok_bind (ok_eq (rg 2 (by omega)) (ok_modI (by omega) (ok_ret (ok_ret (by omega)))))))
    rintro times ⟨t1, t2⟩
    obtain ⟨r, rfl⟩ : ∃ r : Nat, times = ((r + 1 : Nat) : Int) := ⟨times.toNat - 1, by omega⟩
    have tp := Int.mul_le_mul_of_nonneg_right t2 (show 0 ≤ p by omega)
    have tp1 : 1 * p ≤ ((r + 1 : Nat) : Int) * p := Int.mul_le_mul_of_nonneg_right t1 (by omega)
    rw [Int.mul_comm p room] at rm
    refine ok_bind (ok_lApp (by omega) (ok_bind (ok_ret (ok_bind (ok_bind (ok_mulB (by omega) (by omega) (ok_ret ?_)))))))
    refine ok_bind (ok_lcM (g := fun q => q + ((r + 1 : Nat) : Int) * p) (by omega) (fun q _ => ok_bind (ok_bind (ok_mulB (by omega) (by omega) (ok_ret (ok_ret rfl))))) ?_)
    refine ok_bind (ok_eq (rg 0 (by omega)) (ok_bind (ok_lSet d00 (by rw [List.length_map]; exact e0) ?_)))
    have s2 : ∀ q, q ∈ (rows.map fun q => q + ((r + 1 : Nat) : Int) * p).set (row.getD 0 0).toNat p ↔ q = p ∨ ∃ o, o ∈ rows.eraseIdx (row.getD 0 0).toNat ∧ q = o + ((r + 1 : Nat) : Int) * p := fun q => by
      rw [mem_set_iff (by rw [List.length_map]; exact hx), erase_map, List.mem_map]
      refine or_congr Iff.rfl ⟨?_, ?_⟩
      · rintro ⟨o, a, b⟩; exact ⟨o, a, b.symm⟩
      · rintro ⟨o, a, b⟩; exact ⟨o, a, b.symm⟩
    have sl : ((rows.map fun q => q + ((r + 1 : Nat) : Int) * p).set (row.getD 0 0).toNat p).length = rows.length := by rw [List.length_set, List.length_map]
    generalize (rows.map fun q => q + ((r + 1 : Nat) : Int) * p).set (row.getD 0 0).toNat p = qs at s2 sl ⊢
    have opos : ∀ o, o ∈ rows.eraseIdx (row.getD 0 0).toNat → 1 ≤ o := fun o ho => (hr.pok.rg o ((s1 o).mpr (.inr ho))).1
    have pok : POk qs := ⟨fun e => by rw [e] at sl; simp at sl; omega, by omega, fun q hq => by
      rcases (s2 q).mp hq with rfl | ⟨o, ho, rfl⟩
      · exact ⟨p1, p2⟩
      · have om := (s1 o).mpr (.inr ho)
        have := lmx o (List.mem_append_left _ om)
        have := (hr.pok.rg o om).1
        omega⟩
    have k1' : Cls (fun q => q = p ∨ q ∈ rows.eraseIdx (row.getD 0 0).toNat) size c' count := hr.cls.congr s1 (fun _ _ _ => rfl) fun q hq => (hr.pok.rg q hq).1
    have k2 := cls_led p1 s0 opos k1' r
    have k3 : Cls (· ∈ qs) _ _ _ := k2.congr (fun q => (s2 q).symm) (fun _ _ _ => rfl) (fun q hq => by
      have := pok.rg q ((s2 q).mpr hq)
      omega)
    refine ok_ret ⟨by dsimp only; rw [List.length_append]; simp only [List.length_cons, List.length_nil]; omega, _, pok, by dsimp only; omega, by dsimp only; omega, k3, fun x x0 x1 => ?_⟩
    have em := emod_le x0 p1
    dsimp only
    rw [class_snoc tab steps p1]
    unfold stC
    by_cases q : x % p < size
    · rw [if_pos q, if_pos q]
      exact hr.run _ em.1 q
    · rw [if_neg q, if_neg q]
  · rintro ⟨rows, size, count, steps⟩ ⟨_, _, c, hr⟩
    exact ok_ret ⟨c, hr⟩
end G
namespace M
def fibp : Nat → Int × Int
  | 0 => (0, 1)
  | n + 1 => match fibp n with | (a, b) => (b, a + b)
theorem fib_step (n : Nat) : (fibp (n + 1)).1 = (fibp n).2 ∧ (fibp (n + 1)).2 = (fibp n).1 + (fibp n).2 := ⟨rfl, rfl⟩
theorem fib_pos : ∀ n, 0 ≤ (fibp n).1 ∧ 0 ≤ (fibp n).2
  | 0 => ⟨by decide, by decide⟩
  | n + 1 => by
    obtain ⟨a, b⟩ := fib_pos n
    obtain ⟨c, d⟩ := fib_step n
    rw [c, d]
    omega
end M
namespace G
open PySem L2 M
theorem gcd_mod {a b : Int} (hb : b ≠ 0) (ha : 0 ≤ a) (hb0 : 0 ≤ b) : gcdI b (a % b) = gcdI a b := by
  unfold gcdI
  congr 1
  obtain ⟨m, rfl⟩ : ∃ m : Nat, a = (m : Int) := ⟨a.toNat, by omega⟩
  obtain ⟨n, rfl⟩ : ∃ n : Nat, b = (n : Int) := ⟨b.toNat, by omega⟩
  rw [← Int.natCast_emod, Int.natAbs_natCast, Int.natAbs_natCast, Int.natAbs_natCast, Nat.gcd_comm n, ← Nat.gcd_rec, Nat.gcd_comm]
theorem gcd_ok {a b : Int} (ha : 1 ≤ a) (hb : 1 ≤ b) (hb2 : b ≤ 1000000000000000000) : m_law_gcd a b = .ok (gcdI a b) := by
  refine Ok.get (α := Int) ?_
  unfold m_law_gcd
  refine ok_bind (ok_ret (ok_bind (ok_ret (ok_bind (ok_rngR (by omega) (by omega) (ok_bind ?_))))))
  refine ok_forN (a := 0) (b := 100) (fun k (s : Int × Int) => 0 < s.1 ∧ 0 ≤ s.2 ∧ gcdI s.1 s.2 = gcdI a b ∧ (k = 0 → s.2 = b) ∧ ∀ j, k = j + 1 → s.2 ≠ 0 → s.2 < s.1 ∧ (fibp j).2 * s.1 + (fibp j).1 * s.2 ≤ b) (by omega) ⟨by show 0 < a; omega, by show 0 ≤ b; omega, rfl, fun _ => rfl, fun j h => by omega⟩ ?_ ?_
  · rintro k ⟨x, y⟩ - hk ⟨x0, y0, hg, h0, h1⟩
    dsimp only at x0 y0 hg h0 h1 ⊢
    refine ok_bind (ok_mono (Q := fun s : Int × Int => s = if y = 0 then (x, y) else (y, x % y)) (ok_ite (fun e => ?_) (fun e => ?_)) ?_)
    · have e : y ≠ 0 := by simpa using e
      refine ok_bind (ok_modI (by omega) (ok_bind (ok_ret (ok_bind (ok_ret (ok_ret ?_))))))
      rw [if_neg e]
    · have e : y = 0 := by simpa using e
      refine ok_ret ?_
      rw [if_pos e]
    rintro _ rfl
    by_cases e : y = 0
    · rw [if_pos e]
      refine ok_ret ⟨x0, y0, hg, fun z => by omega, fun j hj n => absurd e n⟩
    · rw [if_neg e]
      have m0 := Int.emod_nonneg x e
      have m1 := Int.emod_lt_of_pos x (show 0 < y by omega)
      refine ok_ret ⟨by show 0 < y; omega, m0, by rw [← hg]; exact gcd_mod e (by omega) y0, fun z => by omega, fun j hj n => ⟨m1, ?_⟩⟩
      dsimp only at n ⊢
      have ejk : j = k := by omega
      subst ejk
      cases j with
      | zero =>
        have := h0 rfl
        show (1 : Int) * y + 0 * (x % y) ≤ b
        omega
      | succ j =>
        obtain ⟨lt, le⟩ := h1 j rfl e
        obtain ⟨f1, f2⟩ := fib_step j
        obtain ⟨p1, p2⟩ := fib_pos j
        rw [f1, f2]
        have q1 : 1 ≤ x / y := (Int.le_ediv_iff_mul_le (by omega)).mpr (by omega)
        have q2 := Int.mul_ediv_add_emod x y
        have q3 : 1 * y ≤ x / y * y := Int.mul_le_mul_of_nonneg_right q1 y0
        have q4 : y + x % y ≤ x := by
          rw [Int.mul_comm] at q2
          omega
        have q5 := Int.mul_le_mul_of_nonneg_left q4 p2
        rw [Int.mul_add] at q5
        rw [Int.add_mul]
        omega
  · rintro ⟨x, y⟩ ⟨x0, y0, hg, _, h1⟩
    dsimp only at x0 y0 hg h1 ⊢
    by_cases e : y = 0
    · subst e
      refine ok_ret ?_
      rw [← hg]
      unfold gcdI
      rw [show Int.natAbs 0 = 0 from rfl, Nat.gcd_zero_right]
      omega
    · exfalso
      obtain ⟨_, le⟩ := h1 99 rfl e
      obtain ⟨p1, _⟩ := fib_pos 99
      have f : (fibp 99).2 = 354224848179261915075 := by decide +kernel
      rw [f] at le
      have := Int.mul_nonneg p1 y0
      omega
theorem gcd_isG2 {a b : Int} (ha : 1 ≤ a) (hb : 1 ≤ b) : IsG (gcdI a b) [a, b] := by
  have h := gcd_isG (ps := [a, b]) (by simp) (fun p hp => by
    rcases List.mem_cons.mp hp with e | e
    · omega
    · have : p = b := by simpa using e
      omega)
  have e : gcdL [a, b] = gcdI a b := by
    show gcdI (gcdI 0 a) b = gcdI a b
    unfold gcdI
    rw [show Int.natAbs 0 = 0 from rfl, Nat.gcd_zero_left, Int.natAbs_natCast]
  rw [e] at h
  exact h
/-! two periods -/
structure IG (g a b : Int) : Prop where
  g1 : 1 ≤ g
  da : g ∣ a
  db : g ∣ b
  gr : ∀ d, d ∣ a → d ∣ b → d ∣ g
theorem IG.swap {g a b : Int} (h : IG g a b) : IG g b a := ⟨h.g1, h.db, h.da, fun d x y => h.gr d y x⟩
theorem IG.sub {g a b : Int} (h : IG g a b) : IG g a (b - a) := ⟨h.g1, h.da, Int.dvd_sub h.db h.da, fun d x y => h.gr d x (by have := Int.dvd_add y x; rw [Int.sub_add_cancel] at this; exact this)⟩
theorem IG.self {g a : Int} (a1 : 1 ≤ a) (h : IG g a a) : g = a := by
  have x := Int.le_of_dvd (by omega) h.da
  have y := Int.le_of_dvd (by have := h.g1; omega) (h.gr a (Int.dvd_refl a) (Int.dvd_refl a))
  omega
def Two (a b : Int) : Int → Prop := fun q => q = a ∨ q = b
theorem two_swap {a b : Int} (q : Int) : Two a b q ↔ Two b a q := ⟨fun h => h.symm, fun h => h.symm⟩
theorem two_pos {a b : Int} (a1 : 1 ≤ a) (b1 : 1 ≤ b) : ∀ q, Two a b q → 1 ≤ q := fun q h => by rcases h with rfl | rfl <;> omega
theorem two_step {a b n t : Int} {c : Int → Int} (a1 : 1 ≤ a) (lt : a < b) (hn : a ≤ n) (h : Cls (Two a (b - a)) (n - a) c t) : Cls (Two a b) n (stC a (n - a) t c) (t + max 0 (a - (n - a))) := by
  have := cls_step (P := Two a b) a1 (by omega) (.inl rfl) (.inl rfl) (two_pos a1 (by omega)) (fun p hp => by
    rcases hp with rfl | rfl
    · exact .inl rfl
    · exact .inr (.inr rfl)) (fun q hq => by
    rcases hq with rfl | rfl
    · exact .inl rfl
    · exact .inr (.inr (by omega))) h
  rw [Int.sub_add_cancel] at this
  exact this
theorem two_mid : ∀ (N : Nat) (a b n g : Int), a + b ≤ N → 1 ≤ a → a ≤ b → b ≤ n → n ≤ a + b - g → IG g a b → ∃ c, Cls (Two a b) n c (a + b - n)
  | 0, a, b, n, g, h, a1, ab, _, _, _ => by omega
  | N + 1, a, b, n, g, h, a1, ab, bn, ng, G => by
    by_cases e : a = b
    · subst e
      have := G.self a1
      refine ⟨_, by
        have := cls_id (P := Two a a) (n := n) (by omega) fun p hp => by rcases hp with rfl | rfl <;> omega
        rw [show a + a - n = n by omega]
        exact this⟩
    · have g1 := G.g1
      by_cases q : max a (b - a) ≤ n - a
      · obtain ⟨c, hc⟩ : ∃ c, Cls (Two a (b - a)) (n - a) c (b - (n - a)) := by
          by_cases w : a ≤ b - a
          · obtain ⟨c, hc⟩ := two_mid N a (b - a) (n - a) g (by omega) a1 w (by omega) (by omega) G.sub
            exact ⟨c, by rw [show b - (n - a) = a + (b - a) - (n - a) by omega]; exact hc⟩
          · obtain ⟨c, hc⟩ := two_mid N (b - a) a (n - a) g (by omega) (by omega) (by omega) (by omega) (by omega) G.sub.swap
            exact ⟨c, by
              rw [show b - (n - a) = b - a + a - (n - a) by omega]
              exact hc.congr two_swap (fun _ _ _ => rfl) (two_pos (by omega) a1)⟩
        refine ⟨_, by
          have := two_step a1 (by omega) (by omega) hc
          rw [show a + b - n = b - (n - a) + max 0 (a - (n - a)) by omega]
          exact this⟩
      · have hc := cls_mod (P := Two a (b - a)) (n := n - a) (m := b - a) (by omega) (by omega) (.inr rfl) (two_pos a1 (by omega)) fun p hp => by
          rcases hp with rfl | rfl
          · exact .inr (by omega)
          · exact .inl (Int.dvd_refl _)
        refine ⟨_, by
          have := two_step a1 (by omega) (by omega) hc
          rw [show a + b - n = b - a + max 0 (a - (n - a)) by omega]
          exact this⟩
theorem two_big : ∀ (N : Nat) (a b n g : Int), a + b ≤ N → 1 ≤ a → a ≤ b → a + b - g ≤ n → IG g a b → Cls (Two a b) n (fun i => i % g) g
  | 0, a, b, n, g, h, a1, ab, _, _ => by omega
  | N + 1, a, b, n, g, h, a1, ab, ng, G => by
    have g1 := G.g1
    by_cases e : a = b
    · subst e
      have := G.self a1
      subst this
      exact cls_mod a1 (by omega) (.inl rfl) (two_pos a1 a1) fun p hp => by rcases hp with rfl | rfl <;> exact .inl (Int.dvd_refl _)
    · have ge : g ≤ b - a := Int.le_of_dvd (by omega) G.sub.db
      have hc : Cls (Two a (b - a)) (n - a) (fun i => i % g) g := by
        by_cases w : a ≤ b - a
        · exact two_big N a (b - a) (n - a) g (by omega) a1 w (by omega) G.sub
        · exact (two_big N (b - a) a (n - a) g (by omega) (by omega) (by omega) (by omega) G.sub.swap).congr two_swap (fun _ _ _ => rfl) (two_pos (by omega) a1)
      have := two_step a1 (by omega) (by omega) hc
      rw [show g + max 0 (a - (n - a)) = g by omega] at this
      refine this.congr (fun _ => Iff.rfl) (fun i i0 i1 => ?_) (two_pos a1 (by omega))
      have em := emod_le i0 a1
      unfold stC
      rw [if_pos (by omega)]
      exact Int.emod_emod_of_dvd i G.da
def due2 (low high g n : Int) : Int := if n ≤ high ∨ g = low then min n low else if n < low + high - g then low + high - n else g
theorem two_cls {low high g n : Int} (l1 : 1 ≤ low) (lh : low ≤ high) (n0 : 0 ≤ n) (G : IG g low high) : ∃ c, Cls (Two low high) n c (due2 low high g n) ∧ ((due2 low high g n = g ∨ n ≤ high) → ∀ x, 0 ≤ x → x < n → c x = x % due2 low high g n) := by
  have small : n ≤ high ∨ g = low → ∃ c, Cls (Two low high) n c (min n low) ∧ ∀ x, 0 ≤ x → x < n → c x = x % (min n low) := fun e => by
    by_cases q : n ≤ low
    · rw [show min n low = n by omega]
      exact ⟨_, cls_id n0 (fun p hp => by rcases hp with rfl | rfl <;> omega), fun x x0 x1 => (Int.emod_eq_of_lt x0 x1).symm⟩
    · rw [show min n low = low by omega]
      refine ⟨_, cls_mod l1 (by omega) (.inl rfl) (two_pos l1 (by omega)) (fun p hp => ?_), fun x x0 x1 => rfl⟩
      rcases hp with rfl | rfl
      · exact .inl (Int.dvd_refl _)
      · rcases e with e | e
        · exact .inr e
        · exact .inl (e ▸ G.db)
  unfold due2
  by_cases e : n ≤ high ∨ g = low
  · rw [if_pos e]
    obtain ⟨c, h1, h2⟩ := small e
    exact ⟨c, h1, fun _ => h2⟩
  · rw [if_neg e]
    by_cases q : n < low + high - g
    · rw [if_pos q]
      obtain ⟨c, hc⟩ := two_mid (low + high).toNat low high n g (by omega) l1 lh (by omega) (by omega) G
      exact ⟨c, hc, fun z => by omega⟩
    · rw [if_neg q]
      exact ⟨_, two_big (low + high).toNat low high n g (by omega) l1 lh (by omega) G, fun _ _ _ _ => rfl⟩
theorem gcd_IG {a b : Int} (ha : 1 ≤ a) (hb : 1 ≤ b) : IG (gcdI a b) a b := by
  have h := gcd_isG2 ha hb
  exact ⟨h.g1, h.dvd a (by simp), h.dvd b (by simp), fun d x y => h.g2 d fun p hp => by
    rcases List.mem_cons.mp hp with e | e
    · rw [e]; exact x
    · have e : p = b := by simpa using e
      rw [e]; exact y⟩
theorem two_asked_ok {low high draw : Int} (l1 : 1 ≤ low) (lh : low ≤ high) (h2 : high ≤ 1000000000000000000) : m_law_two_asked low high draw = .ok true := by
  refine Ok.get (α := Bool) ?_
  have pm : ∀ q, q ∈ [low, high] ↔ Two low high q := fun q => by unfold Two; simp
  have pm2 : ∀ q, q ∈ [high, low] ↔ Two low high q := fun q => by unfold Two; simp [or_comm]
  have pk : POk [low, high] := ⟨by simp, by simp, fun p hp => by have := (pm p).mp hp; rcases this with rfl | rfl <;> omega⟩
  have pk2 : POk [high, low] := ⟨by simp, by simp, fun p hp => by have := (pm2 p).mp hp; rcases this with rfl | rfl <;> omega⟩
  have G := gcd_IG l1 (show 1 ≤ high by omega)
  have g1 := G.g1
  unfold m_law_two_asked
  refine ok_bind (ok_eq (gcd_ok l1 (by omega) h2) ?_)
  generalize gcdI low high = g at G g1 ⊢
  refine ok_bind (ok_ret (ok_bind (ok_ret (ok_bind (ok_lCat (by simp) ?_)))))
  refine ok_bind (ok_forRL (fun _ _ => True) (fun _ => False) (fun _ => False) trivial ?_ (fun _ _ => ok_ret rfl) (fun _ h => h.elim) (fun _ h => h.elim))
  rintro n ys _ -
  refine ok_bind (ok_ret (ok_bind (ok_mono (Q := fun d => d = if n < low + high - g then low + high - n else g) (ok_ite (fun c => ?_) (fun c => ?_)) ?_)))
  · rw [if_pos (of_decide_eq_true c)]
    exact ok_bind (ok_ret (ok_ret rfl))
  · rw [if_neg (of_decide_eq_false c)]
    exact ok_ret rfl
  rintro _ rfl
  refine ok_bind (ok_mono (Q := fun d => d = due2 low high g n) (ok_ite (fun c => ?_) (fun c => ?_)) ?_)
  · rw [Bool.or_eq_true] at c
    unfold due2
    rw [if_pos (c.imp of_decide_eq_true of_decide_eq_true)]
    exact ok_bind (ok_ret (ok_ret rfl))
  · rw [Bool.or_eq_false_iff] at c
    unfold due2
    rw [if_neg (show ¬ (n ≤ high ∨ g = low) from fun z => z.elim (of_decide_eq_false c.1) (of_decide_eq_false c.2))]
    exact ok_ret rfl
  rintro _ rfl
  dsimp only
  refine ok_ite (fun c => ?_) (fun c => ?_)
  · rw [Bool.and_eq_true] at c
    have n0 := of_decide_eq_true c.1
    have n1 := of_decide_eq_true c.2
    obtain ⟨cl, k1, k2⟩ := two_cls l1 lh n0 G
    have ka : Cls (· ∈ [high, low]) n cl (due2 low high g n) := k1.congr (fun q => (pm2 q).symm) (fun _ _ _ => rfl) (two_pos l1 (by omega))
    have kb : Cls (· ∈ [low, high]) n cl (due2 low high g n) := k1.congr (fun q => (pm q).symm) (fun _ _ _ => rfl) (two_pos l1 (by omega))
    refine ok_bind (ok_eq (count_ok pk2 n0 n1 ka) (ok_bind (ok_eq (number_ok _) (ok_nt ?_))))
    refine ok_ite (fun c => ?_) (fun c => ok_ret trivial)
    rw [Bool.and_eq_true, Bool.and_eq_true, Bool.or_eq_true] at c
    obtain ⟨c1, c2, c3⟩ := c
    have np := of_decide_eq_true c1
    have k3 := k2 (c3.imp of_decide_eq_true of_decide_eq_true)
    have a0 := Int.emod_nonneg draw (show n ≠ 0 by omega)
    have a1 := Int.emod_lt_of_pos draw np
    have b0 := Int.emod_nonneg draw (show min n (low + 7) ≠ 0 by omega)
    have b1 := Int.emod_lt_of_pos draw (show 0 < min n (low + 7) by omega)
    have dp : 0 < due2 low high g n := by
      unfold due2
      split
      · omega
      · split <;> omega
    refine ok_bind (ok_modI np (ok_bind (ok_modI (by omega) ?_)))
    refine ok_bind (ok_forRL (fun ys _ => ∀ x ∈ ys, 0 ≤ x ∧ x < n) (fun _ => False) (fun _ => False) ?_ ?_ (fun _ _ => ok_ret trivial) (fun _ h => h.elim) (fun _ h => h.elim))
    · intro x hx
      simp only [List.mem_cons, List.not_mem_nil, or_false] at hx
      omega
    · rintro x zs _ hx
      obtain ⟨x0, x1⟩ := hx x List.mem_cons_self
      refine ok_bind (ok_eq (of_ok pk n1 x0 x1 kb) (ok_bind (ok_modI dp ?_)))
      rw [k3 x x0 x1]
      exact ok_bind (ok_eq (number_ok _) (ok_nt (ok_ret fun y hy => hx y (List.mem_cons_of_mem _ hy))))
  · refine ok_ite (fun z => ?_) (fun _ => ok_ret trivial)
    exfalso
    rw [Bool.and_eq_false_iff] at c
    rw [Bool.and_eq_true, Bool.and_eq_true] at z
    have z1 := of_decide_eq_true z.1
    have z2 := of_decide_eq_true z.2.1
    rcases c with c | c
    · have := of_decide_eq_false c
      omega
    · have := of_decide_eq_false c
      omega
theorem two_ok {row : List Int} (hd : Dig [4, 1000000000, 1000000000, 1000000000, 1000000000, 9, 1000000000, 1000000000] row) : Ok (m_law_two row) fun l => ∃ a b, l = [a, b] ∧ 1 ≤ a ∧ a ≤ b ∧ b ≤ 1000000000000000000 := by
  have rg : ∀ k : Nat, k < 8 → lGet row (k : Int) = .ok (row.getD k 0) := fun k hk => hd.get hk
  have d1 := hd.2 1 (by decide)
  have d2 := hd.2 2 (by decide)
  have d3 := hd.2 3 (by decide)
  have d4 := hd.2 4 (by decide)
  have d5 := hd.2 5 (by decide)
  have e1 : row.getD 1 0 < 1000000000 := d1.2
  have e2 : row.getD 2 0 < 1000000000 := d2.2
  have e3 : row.getD 3 0 < 1000000000 := d3.2
  have e4 : row.getD 4 0 < 1000000000 := d4.2
  have e5 : row.getD 5 0 < 9 := d5.2
  have d1 := d1.1
  have d2 := d2.1
  have d3 := d3.1
  have d4 := d4.1
  have d5 := d5.1
  unfold m_law_two
  refine ok_bind (ok_bind (ok_bind (ok_bind (ok_eq (rg 1 (by omega)) (ok_mulB (by omega) (by omega) (ok_ret (ok_bind (ok_eq (rg 2 (by omega)) (ok_ret ?_)))))))))
  refine ok_bind (ok_bind (ok_bind (ok_bind (ok_eq (rg 3 (by omega)) (ok_mulB (by omega) (by omega) (ok_ret (ok_bind (ok_eq (rg 4 (by omega)) (ok_ret ?_)))))))))
  have f1 : 1 ≤ 1 + row.getD 1 0 * 1000000000 + row.getD 2 0 ∧ 1 + row.getD 1 0 * 1000000000 + row.getD 2 0 ≤ 1000000000000000000 := by omega
  have f2 : 1 ≤ 1 + row.getD 3 0 * 1000000000 + row.getD 4 0 := by omega
  generalize 1 + row.getD 1 0 * 1000000000 + row.getD 2 0 = first at f1 ⊢
  generalize 1 + row.getD 3 0 * 1000000000 + row.getD 4 0 = second at f2 ⊢
  obtain ⟨f1, f3⟩ := f1
  refine ok_bind (ok_bind (ok_eq (rg 0 (by omega)) (ok_ret (ok_bind (ok_mono (Q := fun s : Int => 1 ≤ s) (ok_ite (fun _ => ok_bind (ok_bind (ok_eq (rg 5 (by omega)) (ok_ret (ok_ret (by omega)))))) (fun _ => ok_ret f2)) ?_)))))
  rintro s1 h1
  refine ok_bind (ok_bind (ok_eq (rg 0 (by omega)) (ok_ret (ok_bind (ok_mono (Q := fun s : Int => 1 ≤ s) (ok_ite (fun _ => ok_bind (ok_bind (ok_bind (ok_eq (rg 5 (by omega)) (ok_ret (ok_mulB (by omega) (by omega) (ok_ret ?_))))))) (fun _ => ok_ret h1)) ?_)))))
  · have := Int.mul_le_mul (show 1 ≤ first by omega) (show 1 ≤ 2 + row.getD 5 0 by omega) (by omega) (by omega)
    omega
  rintro s2 h2
  refine ok_bind (ok_bind (ok_eq (rg 0 (by omega)) (ok_ret (ok_bind (ok_mono (Q := fun s : Int × Int => 1 ≤ s.1 ∧ s.1 ≤ 1000000000000000000 ∧ 1 ≤ s.2) (ok_ite (fun _ => ?_) (fun _ => ok_ret ⟨f1, f3, h2⟩)) ?_)))))
  · refine ok_bind (ok_bind (ok_bind (ok_eq (rg 1 (by omega)) (ok_ret (ok_bind (ok_bind (ok_eq (rg 2 (by omega)) (ok_ret (ok_mulB (by omega) (by omega) ?_)))))))))
    refine ok_bind (ok_bind (ok_bind (ok_eq (rg 3 (by omega)) (ok_ret (ok_bind (ok_bind (ok_eq (rg 2 (by omega)) (ok_ret (ok_mulB (by omega) (by omega) (ok_ret ?_))))))))))
    have q1 := Int.mul_le_mul (show 1 + row.getD 1 0 ≤ 1000000000 by omega) (show 1 + row.getD 2 0 ≤ 1000000000 by omega) (by omega) (by omega)
    have q2 := Int.mul_le_mul (show 1 ≤ 1 + row.getD 1 0 by omega) (show 1 ≤ 1 + row.getD 2 0 by omega) (by omega) (by omega)
    have q3 := Int.mul_le_mul (show 1 ≤ 1 + row.getD 3 0 by omega) (show 1 ≤ 1 + row.getD 2 0 by omega) (by omega) (by omega)
    exact ⟨by show 1 ≤ (1 + row.getD 1 0) * (1 + row.getD 2 0); omega, by show (1 + row.getD 1 0) * (1 + row.getD 2 0) ≤ _; omega, by show 1 ≤ (1 + row.getD 3 0) * (1 + row.getD 2 0); omega⟩
  rintro ⟨first3, second3⟩ ⟨g1, g2, g3⟩
  dsimp only at g1 g2 g3 ⊢
  refine ok_bind (ok_mono (Q := fun s : Int => 1 ≤ s ∧ s ≤ 1000000000000000000) (ok_ite (fun _ => ok_bind (ok_ret (ok_ret ⟨g1, g2⟩))) (fun c => ?_)) fun s hs => ok_ret ⟨_, _, rfl, by omega, by omega, by omega⟩)
  have c := of_decide_eq_false c
  exact ok_ret (by omega)
end G
namespace G
open PySem L2 M
/-! what is refused -/
def OB (v : Int) : Exn := ⟨"OutOfBounds", [("value", enc v)]⟩
def TM6 : Exn := ⟨"TooMany", [("most", enc (6 : Int))]⟩
def NP0 : Exn := ⟨"NoPeriod", []⟩
def Bd (v : Int) : Prop := v < 1 ∨ 1000000000000000000 < v
theorem n1 : ¬ (("TooMany" : Str) = "OutOfBounds") := by decide +kernel
theorem n2 : ¬ (("NoPeriod" : Str) = "OutOfBounds") := by decide +kernel
theorem n3 : ¬ (("NoPeriod" : Str) = "TooMany") := by decide +kernel
theorem ex1 {fs : List (Str × V)} : kn_WordError ⟨"OutOfBounds", fs⟩ = true ∧ is_TooMany ⟨"OutOfBounds", fs⟩ = .ok false ∧ is_OutOfBounds ⟨"OutOfBounds", fs⟩ = .ok true ∧ is_NoPeriod ⟨"OutOfBounds", fs⟩ = .ok false ∧ is_ValueError ⟨"OutOfBounds", fs⟩ = .ok true := by
  refine ⟨(show (decide (("OutOfBounds" : Str) = "OutOfBounds") || decide (("OutOfBounds" : Str) = "TooMany") || decide (("OutOfBounds" : Str) = "NoPeriod")) = true by decide +kernel), ?_, ?_, ?_, ?_⟩
  · unfold is_TooMany; rw [if_pos rfl]
  · unfold is_OutOfBounds; rw [if_pos rfl]
  · unfold is_NoPeriod; rw [if_pos rfl]
  · unfold is_ValueError; rw [if_pos rfl]
theorem ex2 {fs : List (Str × V)} : kn_WordError ⟨"TooMany", fs⟩ = true ∧ is_TooMany ⟨"TooMany", fs⟩ = .ok true ∧ is_OutOfBounds ⟨"TooMany", fs⟩ = .ok false ∧ is_NoPeriod ⟨"TooMany", fs⟩ = .ok false ∧ is_ValueError ⟨"TooMany", fs⟩ = .ok true := by
  refine ⟨(show (decide (("TooMany" : Str) = "OutOfBounds") || decide (("TooMany" : Str) = "TooMany") || decide (("TooMany" : Str) = "NoPeriod")) = true by decide +kernel), ?_, ?_, ?_, ?_⟩
  · unfold is_TooMany; rw [if_neg n1, if_pos rfl]
  · unfold is_OutOfBounds; rw [if_neg n1, if_pos rfl]
  · unfold is_NoPeriod; rw [if_neg n1, if_pos rfl]
  · unfold is_ValueError; rw [if_neg n1, if_pos rfl]
theorem ex3 {fs : List (Str × V)} : kn_WordError ⟨"NoPeriod", fs⟩ = true ∧ is_TooMany ⟨"NoPeriod", fs⟩ = .ok false ∧ is_OutOfBounds ⟨"NoPeriod", fs⟩ = .ok false ∧ is_NoPeriod ⟨"NoPeriod", fs⟩ = .ok true ∧ is_ValueError ⟨"NoPeriod", fs⟩ = .ok true := by
  refine ⟨(show (decide (("NoPeriod" : Str) = "OutOfBounds") || decide (("NoPeriod" : Str) = "TooMany") || decide (("NoPeriod" : Str) = "NoPeriod")) = true by decide +kernel), ?_, ?_, ?_, ?_⟩
  · unfold is_TooMany; rw [if_neg n2, if_neg n3, if_pos rfl]
  · unfold is_OutOfBounds; rw [if_neg n2, if_neg n3, if_pos rfl]
  · unfold is_NoPeriod; rw [if_neg n2, if_neg n3, if_pos rfl]
  · unfold is_ValueError; rw [if_neg n2, if_neg n3, if_pos rfl]
theorem fld_value {c : Str} {f : Str} {x : Int} : fldI c f ⟨c, [(f, enc x)]⟩ = .ok x := by
  unfold fldI
  rw [if_pos rfl]
  have : List.lookup f [(f, (enc x : V))] = some (V.int x) := by simp [List.lookup, enc]; rfl
  dsimp only
  rw [this]
def Exc (which : Int) (ps : SeqL Int) (length place : Int) (e : Exn) : Prop := (which = 0 ∧ m_class_count ps length = .exc e) ∨ (which = 1 ∧ m_class_of ps length place = .exc e)
theorem told_beyond {which length place v : Int} {ps : SeqL Int} (h : Exc which ps length place (OB v)) : m_law_told which ps length place = .ok (([98, 101, 121, 111, 110, 100] : Tx), v) := by
  obtain ⟨x1, x2, x3, x4, x5⟩ := ex1 (fs := [("value", enc v)])
  have fw : fldI "OutOfBounds" "value" ⟨"OutOfBounds", [("value", enc v)]⟩ = .ok v := fld_value
  unfold m_law_told
  rcases h with ⟨rfl, h⟩ | ⟨rfl, h⟩
  · rw [if_pos (by decide), h]
    simp only [OB, Res.bind_exc, Res.catch_exc, x1, if_true, x2, x3, x4, x5, Res.bind_ok, Bool.not_true, Bool.not_false, Bool.and_true, Bool.and_false, Bool.false_and, Bool.true_and, Bool.false_eq_true, if_false, fw]
  · rw [if_neg (by decide), h]
    simp only [OB, Res.bind_exc, Res.catch_exc, x1, if_true, x2, x3, x4, x5, Res.bind_ok, Bool.not_true, Bool.not_false, Bool.and_true, Bool.and_false, Bool.false_and, Bool.true_and, Bool.false_eq_true, if_false, fw]
theorem told_many {which length place : Int} {ps : SeqL Int} (h : Exc which ps length place TM6) : m_law_told which ps length place = .ok (([109, 97, 110, 121] : Tx), 6) := by
  obtain ⟨x1, x2, x3, x4, x5⟩ := ex2 (fs := [("most", enc (6 : Int))])
  have fw : fldI "TooMany" "most" ⟨"TooMany", [("most", enc (6 : Int))]⟩ = .ok 6 := fld_value
  unfold m_law_told
  rcases h with ⟨rfl, h⟩ | ⟨rfl, h⟩
  · rw [if_pos (by decide), h]
    simp only [TM6, Res.bind_exc, Res.catch_exc, x1, if_true, x2, x3, x4, x5, Res.bind_ok, Bool.not_true, Bool.not_false, Bool.and_true, Bool.and_false, Bool.false_and, Bool.true_and, Bool.false_eq_true, if_false, fw]
  · rw [if_neg (by decide), h]
    simp only [TM6, Res.bind_exc, Res.catch_exc, x1, if_true, x2, x3, x4, x5, Res.bind_ok, Bool.not_true, Bool.not_false, Bool.and_true, Bool.and_false, Bool.false_and, Bool.true_and, Bool.false_eq_true, if_false, fw]
theorem told_none {which length place : Int} {ps : SeqL Int} (h : Exc which ps length place NP0) : m_law_told which ps length place = .ok (([110, 111, 110, 101] : Tx), 0) := by
  obtain ⟨x1, x2, x3, x4, x5⟩ := ex3 (fs := [])
  unfold m_law_told
  rcases h with ⟨rfl, h⟩ | ⟨rfl, h⟩
  · rw [if_pos (by decide), h]
    simp only [NP0, Res.bind_exc, Res.catch_exc, x1, if_true, x2, x3, x4, x5, Res.bind_ok, Bool.not_true, Bool.not_false, Bool.and_true, Bool.and_false, Bool.false_and, Bool.true_and, Bool.false_eq_true, if_false]
  · rw [if_neg (by decide), h]
    simp only [NP0, Res.bind_exc, Res.catch_exc, x1, if_true, x2, x3, x4, x5, Res.bind_ok, Bool.not_true, Bool.not_false, Bool.and_true, Bool.and_false, Bool.false_and, Bool.true_and, Bool.false_eq_true, if_false]
theorem refused_ok (k : Tx) (v : Int) : m_law_refused (k, v) k v = .ok true := by
  unfold m_law_refused
  rw [if_pos (decide_eq_true rfl), number_ok]
  rfl
theorem many_bad {ps : List Int} (h : 6 < ps.length) : m_check_periods ⟨ps⟩ = .exc TM6 := by
  unfold m_check_periods m_check_many
  rw [decide_eq_true (by show ((ps.length : Nat) : Int) > 6; omega)]
  rfl
theorem loop_bad {pre post : List Int} {b : Int} (hp : ∀ p ∈ pre, 1 ≤ p ∧ p ≤ 1000000000000000000) (hb : Bd b) : forS (fun (period : Int) (s : Unit) => Res.bind (m_check_range period (1 : Int) (1000000000000000000 : Int)) fun (t3 : Unit) => .ok ()) (pre ++ b :: post) () = .exc (OB b) := by
  induction pre with
  | nil =>
    show Res.bind (Res.bind (m_check_range b 1 1000000000000000000) _) _ = _
    rw [range_bad hb]
    rfl
  | cons p pre ih =>
    have := hp p List.mem_cons_self
    show Res.bind (Res.bind (m_check_range p 1 1000000000000000000) _) _ = _
    rw [range_ok this.1 this.2]
    exact ih fun x hx => hp x (List.mem_cons_of_mem _ hx)
theorem pre_bad {pre post : List Int} {b : Int} (hp : ∀ p ∈ pre, 1 ≤ p ∧ p ≤ 1000000000000000000) (hb : Bd b) (hl : (pre ++ b :: post).length ≤ 6) : m_check_periods ⟨pre ++ b :: post⟩ = .exc (OB b) := by
  unfold m_check_periods m_check_many
  rw [decide_eq_false (by show ¬ (((pre ++ b :: post).length : Nat) : Int) > 6; omega)]
  show Res.bind (forS _ (pre ++ b :: post) ()) _ = _
  rw [loop_bad hp hb]
  rfl
theorem exc_check {which length place : Int} {ps : SeqL Int} {e : Exn} (hw : which = 0 ∨ which = 1) (h : m_check_periods ps = .exc e) : Exc which ps length place e := by
  rcases hw with rfl | rfl
  · exact .inl ⟨rfl, by unfold m_class_count; rw [h]; rfl⟩
  · exact .inr ⟨rfl, by unfold m_class_of; rw [h]; rfl⟩
theorem exc_len {which length place : Int} {ps : SeqL Int} (hw : which = 0 ∨ which = 1) (h : m_check_periods ps = .ok ()) (hb : length < 0 ∨ 1000000000000000000 < length) : Exc which ps length place (OB length) := by
  rcases hw with rfl | rfl
  · exact .inl ⟨rfl, by unfold m_class_count; rw [h, Res.bind_ok, range_bad hb]; rfl⟩
  · exact .inr ⟨rfl, by unfold m_class_of; rw [h, Res.bind_ok, range_bad hb]; rfl⟩
theorem exc_place {length place : Int} {ps : SeqL Int} (h : m_check_periods ps = .ok ()) (h0 : 0 ≤ length) (h1 : length ≤ 1000000000000000000) (hb : place < 0 ∨ length - 1 < place) : Exc 1 ps length place (OB place) :=
  .inr ⟨rfl, by unfold m_class_of; rw [h, Res.bind_ok, range_ok h0 h1, Res.bind_ok, range_bad hb]; rfl⟩
theorem req_nil : m_require_period ⟨[]⟩ = .exc NP0 := rfl
theorem per_nil : m_check_periods ⟨[]⟩ = .ok () := periods_ok (by simp) (fun p h => by cases h)
theorem refusals_ok {ps : List Int} {at_ bad length n : Int} (hp : POk ps) (a0 : 0 ≤ at_) (a1 : at_ < ps.length) (hb : Bd bad) (hL : length < 0 ∨ 1000000000000000000 < length) (n0 : 0 ≤ n) (n1 : n ≤ 1000) : m_law_refusals ps at_ bad length n = .ok true := by
  refine Ok.get (α := Bool) ?_
  have l6 := hp.len
  have chk := periods_ok hp.len hp.rg
  unfold m_law_refusals
  rw [cutTo a0, cutFrom (by omega)]
  have t1 : (ps.take at_.toNat).length = at_.toNat := by rw [List.length_take]; omega
  have t2 : (ps.drop (at_ + 1).toNat).length = ps.length - (at_.toNat + 1) := by rw [List.length_drop]; omega
  refine ok_bind (ok_lCat (by rw [t1]; simp; omega) (ok_bind (ok_lCat (by rw [List.length_append, t1, t2]; simp; omega) ?_)))
  have sl : (ps.take at_.toNat ++ [bad] ++ ps.drop (at_ + 1).toNat).length = ps.length := by
    rw [List.length_append, List.length_append, t1, t2]
    simp only [List.length_cons, List.length_nil]
    omega
  have sb : m_check_periods ⟨ps.take at_.toNat ++ [bad] ++ ps.drop (at_ + 1).toNat⟩ = .exc (OB bad) := by
    rw [List.append_assoc] at sl ⊢
    refine pre_bad (fun p h => hp.rg p (List.mem_of_mem_take h)) hb ?_
    exact Nat.le_trans (Nat.le_of_eq sl) l6
  generalize ps.take at_.toNat ++ [bad] ++ ps.drop (at_ + 1).toNat = sp at sl sb ⊢
  refine ok_bind (ok_rngR (by omega) (by omega) (ok_bind (ok_forR (fun _ _ => True) (fun _ => False) (fun _ => False) (by omega) trivial ?_ ?_ (fun _ h => h.elim) (fun _ h => h.elim))))
  · rintro k _ k0 k1 -
    have hw : k = 0 ∨ k = 1 := by omega
    refine ok_bind (ok_eq (told_beyond (exc_check hw sb)) (ok_bind (ok_eq (refused_ok _ _) (ok_nt ?_))))
    refine ok_bind (ok_lRep (by omega) (by omega) (by rw [show (7 : Int).toNat = 7 from rfl]; omega) ?_)
    rw [cutTo (by omega)]
    have ml : 6 < ((List.replicate (7 : Int).toNat sp).flatten.take (7 : Int).toNat).length := by
      rw [List.length_take, List.length_flatten, List.map_replicate, List.sum_replicate_nat]
      show 6 < min 7 (7 * sp.length)
      omega
    refine ok_bind (ok_eq (told_many (exc_check hw (many_bad ml))) (ok_bind (ok_eq (refused_ok _ _) (ok_nt ?_))))
    refine ok_bind (ok_eq (told_beyond (exc_len hw chk hL)) (ok_bind (ok_eq (refused_ok _ _) (ok_nt ?_))))
    refine ok_bind (ok_eq (told_beyond (exc_len hw per_nil hL)) (ok_bind (ok_eq (refused_ok _ _) (ok_nt ?_))))
    have e7 : Exc k ⟨[]⟩ 7 6 NP0 := by
      rcases hw with rfl | rfl
      · exact .inl ⟨rfl, by unfold m_class_count; rw [per_nil, Res.bind_ok, range_ok (by omega) (by omega), Res.bind_ok, req_nil]; rfl⟩
      · exact .inr ⟨rfl, by unfold m_class_of; rw [per_nil, Res.bind_ok, range_ok (by omega) (by omega), Res.bind_ok, range_ok (by omega) (by omega), Res.bind_ok, req_nil]; rfl⟩
    exact ok_bind (ok_eq (told_none e7) (ok_bind (ok_eq (refused_ok _ _) (ok_nt (ok_ret trivial)))))
  rintro _ -
  refine ok_bind (ok_forRL (fun ys _ => ∀ y ∈ ys, y < 0 ∨ n - 1 < y) (fun _ => False) (fun _ => False) ?_ ?_ ?_ (fun _ h => h.elim) (fun _ h => h.elim))
  · intro y hy
    simp only [List.mem_cons, List.not_mem_nil, or_false] at hy
    omega
  · rintro y ys _ hy
    have y0 := hy y List.mem_cons_self
    refine ok_bind (ok_eq (told_beyond (exc_place chk n0 (by omega) y0)) (ok_bind (ok_eq (refused_ok _ _) (ok_nt ?_))))
    exact ok_bind (ok_eq (told_beyond (exc_place per_nil n0 (by omega) y0)) (ok_bind (ok_eq (refused_ok _ _) (ok_nt (ok_ret fun z hz => hy z (List.mem_cons_of_mem _ hz))))))
  rintro _ -
  have e0 : Exc 0 ⟨[]⟩ 0 0 NP0 := .inl ⟨rfl, by unfold m_class_count; rw [per_nil, Res.bind_ok, range_ok (by omega) (by omega), Res.bind_ok, req_nil]; rfl⟩
  exact ok_bind (ok_eq (told_none e0) (ok_bind (ok_eq (refused_ok _ _) (ok_ret rfl))))
end G
namespace G
open PySem L2 M
theorem kn_tab {ps qs : List Int} {n m more N : Int} {tab : ML4 Int Int (List Int) (List Int)} (h : Tab ps n m more tab) (hN : N = m * n + more) (pok : POk qs) (hq : ∀ x, x ∈ qs ↔ ∃ q, q ∈ ps ∧ x = m * q) (hb : N ≤ 1000000000000000000) : Kn qs N (tabT n m more tab) tab [] (tabC n m more tab) := by
  subst hN
  have m1 := h.m1
  have mn : 0 ≤ m * n := Int.mul_nonneg (by omega) h.n0
  have e0 := h.e0
  refine ⟨pok, by omega, hb, h.cls.congr (fun x => (hq x).symm) (fun _ _ _ => rfl) (fun p hp => (pok.rg p ((hq p).mpr hp)).1), fun x x0 x1 => ?_⟩
  rw [class_nil]
  exact code_ok h x0 x1
theorem hand_ok {xs ys : List Int} (hl : xs.length = ys.length) (h6 : ys.length ≤ 1000) : Ok (forS (fun (k_ : Int) (s : (List Int)) => match s with | handed => Res.bind (lGet ys k_) fun (t46 : Int) => Res.bind (lSet handed k_ t46) fun (handed : (List Int)) => .ok handed) (rng 0 ((xs.length : Nat) : Int)) xs) fun r => r = ys := by
  refine ok_forN (a := 0) (fun k (s : List Int) => s.length = ys.length ∧ ∀ j, j < k → s[j]? = ys[j]?) (by omega) ⟨hl, fun j h => absurd h (Nat.not_lt_zero _)⟩ ?_ ?_
  · rintro k s - hk ⟨h1, h2⟩
    dsimp only
    refine ok_bind (ok_lGetE (by omega) (by omega) fun hx => ?_)
    refine ok_bind (ok_lSet (by omega) (by omega) (ok_ret ⟨by rw [List.length_set]; exact h1, fun j hj => ?_⟩))
    rw [List.getElem?_set]
    have ek : (k : Int).toNat = k := Int.toNat_natCast k
    by_cases c : (k : Int).toNat = j
    · rw [if_pos c, if_pos (by omega)]
      have hj2 : j < ys.length := by omega
      rw [List.getElem?_eq_getElem hj2]
      congr 1
      simp only [c]
    · rw [if_neg c]
      exact h2 j (by omega)
  · rintro s ⟨h1, h2⟩
    refine List.ext_getElem? fun j => ?_
    by_cases c : j < ys.length
    · exact h2 j (by omega)
    · rw [List.getElem?_eq_none (by omega), List.getElem?_eq_none (by omega)]
theorem law_all (ns : List Int) (h : ns.length ≤ 63) : m_law ⟨ns⟩ = .ok true := by
  refine Ok.get (α := Bool) ?_
  unfold m_law
  refine ok_bind (ok_ret ?_)
  generalize cutL ns none (some (63 : Int)) = cells
  refine ok_bind (ok_mono (dig_ok (by omega) (by decide) (by decide)) ?_)
  intro plan hd
  have pg : ∀ k : Nat, k < 8 → lGet plan (k : Int) = .ok (plan.getD k 0) := fun k hk => hd.get hk
  have d1 := hd.2 1 (by decide)
  have d2 := hd.2 2 (by decide)
  have d3 := hd.2 3 (by decide)
  have d4 := hd.2 4 (by decide)
  have d5 := hd.2 5 (by decide)
  have d6 := hd.2 6 (by decide)
  have d7 := hd.2 7 (by decide)
  have e1 : plan.getD 1 0 < 6 := d1.2
  have e2 : plan.getD 2 0 < 41 := d2.2
  have e3 : plan.getD 3 0 < 61 := d3.2
  have e4 : plan.getD 4 0 < 4 := d4.2
  have e5 : plan.getD 5 0 < 4 := d5.2
  have e6 : plan.getD 6 0 < 6 := d6.2
  have d1 := d1.1
  have d2 := d2.1
  have d3 := d3.1
  have d4 := d4.1
  have d5 := d5.1
  have d6 := d6.1
  have d7 := d7.1
  refine ok_bind (ok_ret (ok_bind (ok_eq (pg 2 (by omega)) (ok_bind (ok_bind (ok_eq (pg 0 (by omega)) (ok_ret ?_)))))))
  refine ok_bind (ok_mono (Q := fun s : Int × Int => (12 ≤ s.1 ∧ s.1 ≤ 20) ∧ 0 ≤ s.2 ∧ s.2 ≤ 60) (ok_ite (fun _ => ok_bind (ok_ret (ok_bind (ok_eq (pg 3 (by omega)) (ok_ret ⟨by dsimp only; omega, by dsimp only; omega, by dsimp only; omega⟩))))) (fun _ => ok_ret ⟨by dsimp only; omega, by dsimp only; omega, by dsimp only; omega⟩)) ?_)
  rintro ⟨limit, n⟩ ⟨l1, n0, n1⟩
  dsimp only at l1 n0 n1 ⊢
  refine ok_bind (ok_bind (ok_eq (pg 1 (by omega)) (ok_ret (ok_bind (ok_rngR (by omega) (by omega) ?_)))))
  have rl : (rng 0 (1 + plan.getD 1 0)).length = (1 + plan.getD 1 0).toNat := by rw [rng_len]; omega
  refine ok_bind (ok_mono (Q := fun ys : List Int => ys.length = (1 + plan.getD 1 0).toNat ∧ ∀ p ∈ ys, 1 ≤ p ∧ p ≤ limit) ?_ ?_)
  · have one : ∀ k : Int, 0 ≤ k → k ≤ 1000 - 1 → ∃ x, (Res.bind (noX (m_law_dig cells ((1 : Int) + k) [limit])) fun (t7 : (List Int)) => Res.bind (lGet t7 (0 : Int)) fun (t8 : Int) => Res.bind (.ok ((1 : Int) + t8)) fun (t9 : Int) => .ok t9) = .ok x ∧ 1 ≤ x ∧ x ≤ limit := fun k a b => by
      obtain ⟨row, er, hr⟩ := dig_ok (cells := cells) (place := 1 + k) (sizes := [limit]) (by omega) (fun s hs => by
        have : s = limit := by simpa using hs
        omega) (by show 1 ≤ 50; omega)
      have q := hr.2 0 (by show 0 < 1; omega)
      have q2 : row.getD 0 0 < limit := q.2
      refine ⟨1 + row.getD 0 0, ?_, by omega, by omega⟩
      rw [er]
      show Res.bind (lGet row ((0 : Nat) : Int)) _ = _
      rw [hr.get (k := 0) (by show 0 < 1; omega)]
      rfl
    have ch : ∀ k : Int, ∃ x, (0 ≤ k ∧ k ≤ 1000 - 1 → (Res.bind (noX (m_law_dig cells ((1 : Int) + k) [limit])) fun (t7 : (List Int)) => Res.bind (lGet t7 (0 : Int)) fun (t8 : Int) => Res.bind (.ok ((1 : Int) + t8)) fun (t9 : Int) => .ok t9) = .ok x ∧ 1 ≤ x ∧ x ≤ limit) := fun k => by
      by_cases c : 0 ≤ k ∧ k ≤ 1000 - 1
      · obtain ⟨x, hx⟩ := one k c.1 c.2
        exact ⟨x, fun _ => hx⟩
      · exact ⟨0, fun z => absurd z c⟩
    obtain ⟨f, hf⟩ := Classical.axiomOfChoice ch
    refine ok_lcM (g := f) (by omega) (fun k hk => ?_) ⟨by rw [List.length_map]; exact rl, fun p hp => ?_⟩
    · have := mem_rng.mp hk
      exact ⟨_, (hf k (by omega)).1, rfl⟩
    · obtain ⟨k, hk, rfl⟩ := List.mem_map.mp hp
      have := mem_rng.mp hk
      exact (hf k (by omega)).2
  rintro ps ⟨nl, np⟩

  have p20 : ∀ p ∈ ps, 1 ≤ p ∧ p ≤ 20 := fun p hp => by have := np p hp; omega
  have ne : ps ≠ [] := fun e => by rw [e] at nl; have nl : 0 = (1 + plan.getD 1 0).toNat := nl; omega
  have pok : POk ps := ⟨ne, by omega, fun p hp => by have := p20 p hp; omega⟩
  refine ok_bind (ok_mono (dig_ok (by omega) (by decide) (by decide)) ?_)
  intro spots hs
  have sg : ∀ k : Nat, k < 3 → lGet spots (k : Int) = .ok (spots.getD k 0) := fun k hk => hs.get hk
  have sl : spots.length = 3 := hs.1
  have f1 := hs.2 1 (by decide)
  have f1b : spots.getD 1 0 < 1000000000 := f1.2
  have f1 := f1.1
  refine ok_bind (ok_mono (table_ok n0 (by omega) (by omega) (by omega) (by omega) (by omega) fun p hp => by have := p20 p hp; omega) ?_)
  intro near hnear
  have knN := kn_tab (qs := ps) (N := n) hnear (by omega) pok (fun x => ⟨fun hx => ⟨x, hx, by omega⟩, fun ⟨q, hq, e⟩ => by rw [e, Int.one_mul]; exact hq⟩) (by omega)
  refine ok_bind (ok_eq (total_ok hnear) (ok_bind (ok_eq (asked_ok knN (by omega)) (ok_nt ?_))))
  rw [neD_ints, decide_eq_true rfl]
  refine ok_bind (ok_ret (ok_ff ?_))
  refine ok_bind (ok_mono (dig_ok (by omega) (by decide) (by decide)) ?_)
  intro big hb
  have bg : ∀ k : Nat, k < 6 → lGet big (k : Int) = .ok (big.getD k 0) := fun k hk => hb.get hk
  have b0 := hb.2 0 (by decide)
  have b1 := hb.2 1 (by decide)
  have b2 := hb.2 2 (by decide)
  have b3 := hb.2 3 (by decide)
  have b4 := hb.2 4 (by decide)
  have b5 := hb.2 5 (by decide)
  have c0 : big.getD 0 0 < 9 := b0.2
  have c1 : big.getD 1 0 < 100000000 := b1.2
  have c2 : big.getD 2 0 < 100000000 := b2.2
  have c3 : big.getD 3 0 < 3 := b3.2
  have c4 : big.getD 4 0 < 100000000 := b4.2
  have c5 : big.getD 5 0 < 100000000 := b5.2
  have b0 := b0.1
  have b1 := b1.1
  have b2 := b2.1
  have b3 := b3.1
  have b4 := b4.1
  have b5 := b5.1
  refine ok_bind (ok_bind (ok_bind (ok_bind (ok_eq (bg 1 (by omega)) (ok_mulB (by omega) (by omega) (ok_ret (ok_bind (ok_eq (bg 2 (by omega)) (ok_ret ?_)))))))))
  refine ok_bind (ok_bind (ok_eq (bg 0 (by omega)) (ok_ret (ok_bind (ok_bind (ok_eq (bg 1 (by omega)) (ok_ret (ok_bind (ok_bind (ok_eq (bg 1 (by omega)) (ok_ret ?_))))))))))) 
  refine ok_bind (ok_eq (pg 4 (by omega)) (ok_bind (ok_mono (Q := fun t : Int => 1 ≤ t ∧ t ≤ 10000000000000000) ?_ ?_)))
  · refine ok_lGet d4 (by show plan.getD 4 0 < 4; exact e4) ?_
    have hk : (plan.getD 4 0).toNat < 4 := by omega
    generalize (plan.getD 4 0).toNat = k at hk
    have : k = 0 ∨ k = 1 ∨ k = 2 ∨ k = 3 := by omega
    rcases this with rfl | rfl | rfl | rfl
    · show 1 ≤ 2 + big.getD 0 0 ∧ 2 + big.getD 0 0 ≤ _; omega
    · show 1 ≤ 1 + big.getD 1 0 ∧ 1 + big.getD 1 0 ≤ _; omega
    · show 1 ≤ 1 + big.getD 1 0 ∧ 1 + big.getD 1 0 ≤ _; omega
    · show 1 ≤ 1 + big.getD 1 0 * 100000000 + big.getD 2 0 ∧ 1 + big.getD 1 0 * 100000000 + big.getD 2 0 ≤ _; omega
  rintro m ⟨m1, m2⟩
  refine ok_bind (ok_bind (ok_bind (ok_eq (bg 4 (by omega)) (ok_ret (ok_modI (by omega) ?_)))))
  refine ok_bind (ok_bind (ok_bind (ok_bind (ok_eq (bg 4 (by omega)) (ok_mulB (by omega) (by omega) (ok_bind (ok_eq (bg 5 (by omega)) (ok_ret (ok_modI (by omega) ?_)))))))))
  have r0 := Int.emod_nonneg (big.getD 4 0) (show m ≠ 0 by omega)
  have r1 := Int.emod_lt_of_pos (big.getD 4 0) (show 0 < m by omega)
  have r2 := Int.emod_nonneg (big.getD 4 0 * 100000000 + big.getD 5 0) (show m ≠ 0 by omega)
  have r3 := Int.emod_lt_of_pos (big.getD 4 0 * 100000000 + big.getD 5 0) (show 0 < m by omega)
  refine ok_bind (ok_eq (bg 3 (by omega)) (ok_bind (ok_mono (Q := fun t : Int => 0 ≤ t ∧ t < m) ?_ ?_)))
  · refine ok_lGet b3 (by show big.getD 3 0 < 3; exact c3) ?_
    have hk : (big.getD 3 0).toNat < 3 := by omega
    generalize (big.getD 3 0).toNat = k at hk
    have : k = 0 ∨ k = 1 ∨ k = 2 := by omega
    rcases this with rfl | rfl | rfl
    · show (0 : Int) ≤ 0 ∧ (0 : Int) < m; omega
    · exact ⟨r0, r1⟩
    · exact ⟨r2, r3⟩
  rintro more ⟨g0, g1⟩
  refine ok_bind (ok_mono (table_ok n0 (by omega) m1 (by omega) g0 g1 fun p hp => by have := p20 p hp; omega) ?_)
  intro tab htab
  refine ok_bind (ok_eq (total_ok htab) ?_)
  refine ok_bind (ok_lcM (g := (m * ·)) (by omega) (fun p hp => ?_) ?_)
  · have := p20 p hp
    exact ok_bind (ok_mulB (by omega) (by omega) (ok_ret rfl))
  have gl : (ps.map (m * ·)).length = ps.length := List.length_map _
  refine ok_bind (ok_rngR (by omega) (by omega) (ok_bind (ok_mono (hand_ok gl.symm (by omega)) ?_)))
  rintro _ rfl
  have gm : ∀ x, x ∈ ps.map (m * ·) ↔ ∃ q, q ∈ ps ∧ x = m * q := fun x => by
    rw [List.mem_map]
    constructor
    · rintro ⟨q, a, b⟩; exact ⟨q, a, b.symm⟩
    · rintro ⟨q, a, b⟩; exact ⟨q, a, b.symm⟩
  have gpok : POk (ps.map (m * ·)) := ⟨fun e => ne (List.map_eq_nil_iff.mp e), by omega, fun x hx => by
    obtain ⟨q, hq, rfl⟩ := (gm x).mp hx
    have := p20 q hq
    have a := Int.mul_le_mul m2 (show q ≤ 20 by omega) (by omega) (by omega)
    have b := Int.mul_le_mul m1 (show 1 ≤ q by omega) (by omega) (by omega)
    omega⟩
  have mn := Int.mul_le_mul m2 n1 n0 (by omega)
  have mn0 : 0 ≤ m * n := Int.mul_nonneg (by omega) n0
  have kn := kn_tab (qs := ps.map (m * ·)) (N := m * n + more) htab rfl gpok gm (by omega)
  generalize ps.map (m * ·) = great at gl gm gpok kn ⊢
  refine ok_bind (ok_lcM (g := fun d => d * 1000000000 + spots.getD 0 0) (by omega) (fun d hdm => ?_) ?_)
  · have db : 0 ≤ d ∧ d < 1000000000 := by
      obtain ⟨k, hk, e⟩ := List.getElem_of_mem hdm
      have := hs.2 k (by show k < 3; omega)
      rw [List.getD_eq_getElem?_getD, List.getElem?_eq_getElem hk] at this
      have this : 0 ≤ spots[k] ∧ spots[k] < [(1000000000 : Int), 1000000000, 1000000000].getD k 0 := this
      rw [e] at this
      have hk3 : k = 0 ∨ k = 1 ∨ k = 2 := by omega
      rcases hk3 with rfl | rfl | rfl <;> exact this
    exact ok_bind (ok_bind (ok_mulB (by omega) (by omega) (ok_bind (ok_eq (sg 0 (by omega)) (ok_ret (ok_ret rfl))))))
  have fl : (spots.map fun d => d * 1000000000 + spots.getD 0 0).length ≤ 1000 := by rw [List.length_map]; omega
  generalize (spots.map fun d => d * 1000000000 + spots.getD 0 0) = far at fl ⊢
  refine ok_bind (ok_bind (ok_mulB (by omega) (by omega) (ok_ret ?_)))
  refine ok_bind (ok_eq (asked_ok kn fl) (ok_nt ?_))
  rw [neD_ints, decide_eq_true rfl]
  refine ok_bind (ok_ret (ok_ff ?_))
  refine ok_bind (ok_bind (ok_mulB (by omega) (by omega) (ok_ret ?_)))
  refine ok_bind (ok_eq (pg 5 (by omega)) (ok_bind (ok_mono (led_ok (cells := cells) (rounds := plan.getD 5 0) kn d5 (by omega)) ?_)))
  rintro led ⟨c', kl⟩
  refine ok_bind (ok_eq (asked_ok kl fl) (ok_nt ?_))
  refine ok_bind (ok_mono (dig_ok (by omega) (by decide) (by decide)) ?_)
  intro row hr
  have wg : ∀ k : Nat, k < 8 → lGet row (k : Int) = .ok (row.getD k 0) := fun k hk => hr.get hk
  have w6 := hr.2 6 (by decide)
  have w7 := hr.2 7 (by decide)
  have w6b : row.getD 6 0 < 1000000000 := w6.2
  have w6 := w6.1
  refine ok_bind (ok_mono (two_ok hr) ?_)
  rintro _ ⟨p, q, rfl, p1, pq, q1⟩
  refine ok_bind (ok_eq (a := p) rfl (ok_bind (ok_eq (a := q) rfl ?_)))
  refine ok_bind (ok_bind (ok_bind (ok_eq (wg 6 (by omega)) (ok_mulB (by omega) (by omega) (ok_bind (ok_eq (wg 7 (by omega)) (ok_ret ?_)))))))
  refine ok_bind (ok_eq (two_asked_ok p1 pq q1) (ok_nt ?_))
  refine ok_bind (ok_bind (ok_eq (sg 1 (by omega)) (ok_ret (ok_bind (ok_bind (ok_eq (sg 1 (by omega)) (ok_ret ?_)))))))
  refine ok_bind (ok_eq (pg 6 (by omega)) (ok_bind (ok_mono (Q := Bd) ?_ ?_)))
  · refine ok_lGet d6 (by show plan.getD 6 0 < 6; exact e6) ?_
    have hk : (plan.getD 6 0).toNat < 6 := by omega
    generalize (plan.getD 6 0).toNat = k at hk
    have : k = 0 ∨ k = 1 ∨ k = 2 ∨ k = 3 ∨ k = 4 ∨ k = 5 := by omega
    unfold Bd
    rcases this with rfl | rfl | rfl | rfl | rfl | rfl
    · refine .inl ?_
      show (0 : Int) < 1
      omega
    · refine .inl ?_
      show (-(1 : Int)) < 1
      omega
    · refine .inr ?_
      show (1000000000000000000 : Int) < 1000000000000000001
      omega
    · refine .inl ?_
      show -(1 : Int) - spots.getD 1 0 < 1
      omega
    · refine .inr ?_
      show 1000000000000000000 < 1000000000000000001 + spots.getD 1 0
      omega
    · refine .inl ?_
      show (-(1000000000000000000000000000000000000000 : Int)) < 1
      omega
  intro bad hbad
  refine ok_bind (ok_eq (pg 6 (by omega)) (ok_bind (ok_mono (Q := fun L : Int => L < 0 ∨ 1000000000000000000 < L) ?_ ?_)))
  · refine ok_lGet d6 (by show plan.getD 6 0 < 6; exact e6) ?_
    have hk : (plan.getD 6 0).toNat < 6 := by omega
    generalize (plan.getD 6 0).toNat = k at hk
    have : k = 0 ∨ k = 1 ∨ k = 2 ∨ k = 3 ∨ k = 4 ∨ k = 5 := by omega
    rcases this with rfl | rfl | rfl | rfl | rfl | rfl
    · exact .inl (by decide)
    · exact .inr (by decide)
    · exact .inl (by decide)
    · exact .inr (by decide)
    · exact .inl (by decide)
    · exact .inr (by decide)
  intro L hL
  have pl := List.length_pos_iff.mpr ne
  refine ok_bind (ok_bind (ok_bind (ok_eq (pg 7 (by omega)) (ok_ret (ok_modI (by omega) ?_)))))
  have z0 := Int.emod_nonneg (plan.getD 7 0) (show ((ps.length : Nat) : Int) ≠ 0 by omega)
  have z1 := Int.emod_lt_of_pos (plan.getD 7 0) (show (0 : Int) < ((ps.length : Nat) : Int) by omega)
  refine ok_bind (ok_eq (refusals_ok pok z0 z1 hbad hL n0 (by omega)) (ok_nt ?_))
  refine ok_bind (ok_eq (total_ok hnear) (ok_bind (ok_eq (asked_ok knN (by omega)) (ok_ret rfl))))
end G
namespace G
open PySem PySem.Spec PyProof.Rows L2 M
def top (i : Nat) : Stmt := PySem.Challenge.pw_wordruns_k37_far_classes.main.body.getD i (.Pass ⟨0, 0, 0, 0⟩)
abbrev s_check_range : Stmt := top 6
abbrev N_check_range : List Str := ["value", "low", "high"]
theorem sc_check_range : FnScope N_check_range ["value", "low", "high"] (defScope s_check_range) := ⟨rfl, rfl, rfl, by decide +kernel, rfl, by decide +kernel, by decide +kernel⟩

abbrev s_check_many : Stmt := top 7
abbrev N_check_many : List Str := ["things", "most"]
theorem sc_check_many : FnScope N_check_many ["things", "most"] (defScope s_check_many) := ⟨rfl, rfl, rfl, by decide +kernel, rfl, by decide +kernel, by decide +kernel⟩

abbrev s_check_periods : Stmt := top 11
abbrev N_check_periods : List Str := ["periods", "period"]
theorem sc_check_periods : FnScope N_check_periods ["periods"] (defScope s_check_periods) := ⟨rfl, rfl, rfl, by decide +kernel, rfl, by decide +kernel, by decide +kernel⟩

abbrev s_require_period : Stmt := top 12
abbrev N_require_period : List Str := ["periods"]
theorem sc_require_period : FnScope N_require_period ["periods"] (defScope s_require_period) := ⟨rfl, rfl, rfl, by decide +kernel, rfl, by decide +kernel, by decide +kernel⟩

abbrev s_rounds : Stmt := top 13
abbrev N_rounds : List Str := ["rows", "least", "counts", "period"]
theorem sc_rounds : FnScope N_rounds ["rows"] (defScope s_rounds) := ⟨rfl, rfl, rfl, by decide +kernel, rfl, by decide +kernel, by decide +kernel⟩

abbrev s_lessened : Stmt := top 14
abbrev N_lessened : List Str := ["rows", "rounds", "least", "taken", "rest", "period"]
theorem sc_lessened : FnScope N_lessened ["rows", "rounds"] (defScope s_lessened) := ⟨rfl, rfl, rfl, by decide +kernel, rfl, by decide +kernel, by decide +kernel⟩

abbrev s_classes : Stmt := top 15
abbrev N_classes : List Str := ["rows", "length", "added", "least", "rounds"]
theorem sc_classes : FnScope N_classes ["rows", "length"] (defScope s_classes) := ⟨rfl, rfl, rfl, by decide +kernel, rfl, by decide +kernel, by decide +kernel⟩

abbrev s_class_count : Stmt := top 16
abbrev N_class_count : List Str := ["periods", "length"]
theorem sc_class_count : FnScope N_class_count ["periods", "length"] (defScope s_class_count) := ⟨rfl, rfl, rfl, by decide +kernel, rfl, by decide +kernel, by decide +kernel⟩

abbrev s_class_at : Stmt := top 17
abbrev N_class_at : List Str := ["rows", "length", "place", "least", "rounds", "border"]
theorem sc_class_at : FnScope N_class_at ["rows", "length", "place"] (defScope s_class_at) := ⟨rfl, rfl, rfl, by decide +kernel, rfl, by decide +kernel, by decide +kernel⟩

abbrev s_class_of : Stmt := top 18
abbrev N_class_of : List Str := ["periods", "length", "place"]
theorem sc_class_of : FnScope N_class_of ["periods", "length", "place"] (defScope s_class_of) := ⟨rfl, rfl, rfl, by decide +kernel, rfl, by decide +kernel, by decide +kernel⟩

abbrev s_law_dig : Stmt := top 20
abbrev N_law_dig : List Str := ["cells", "place", "sizes", "cell", "left", "row", "k", "mixed"]
theorem sc_law_dig : FnScope N_law_dig ["cells", "place", "sizes"] (defScope s_law_dig) := ⟨rfl, rfl, rfl, by decide +kernel, rfl, by decide +kernel, by decide +kernel⟩

abbrev s_law_number : Stmt := top 21
abbrev N_law_number : List Str := ["told", "due"]
theorem sc_law_number : FnScope N_law_number ["told", "due"] (defScope s_law_number) := ⟨rfl, rfl, rfl, by decide +kernel, rfl, by decide +kernel, by decide +kernel⟩

abbrev s_law_closing : Stmt := top 22
abbrev N_law_closing : List Str := ["periods", "n", "marks", "p", "t", "low", "high", "mark"]
theorem sc_law_closing : FnScope N_law_closing ["periods", "n"] (defScope s_law_closing) := ⟨rfl, rfl, rfl, by decide +kernel, rfl, by decide +kernel, by decide +kernel⟩

abbrev s_law_firsts : Stmt := top 23
abbrev N_law_firsts : List Str := ["marks", "t"]
theorem sc_law_firsts : FnScope N_law_firsts ["marks"] (defScope s_law_firsts) := ⟨rfl, rfl, rfl, by decide +kernel, rfl, by decide +kernel, by decide +kernel⟩

abbrev s_law_below : Stmt := top 24
abbrev N_law_below : List Str := ["firsts", "first", "t"]
theorem sc_law_below : FnScope N_law_below ["firsts", "first"] (defScope s_law_below) := ⟨rfl, rfl, rfl, by decide +kernel, rfl, by decide +kernel, by decide +kernel⟩

abbrev s_law_table : Stmt := top 25
abbrev N_law_table : List Str := ["periods", "n", "m", "more"]
theorem sc_law_table : FnScope N_law_table ["periods", "n", "m", "more"] (defScope s_law_table) := ⟨rfl, rfl, rfl, by decide +kernel, rfl, by decide +kernel, by decide +kernel⟩

abbrev s_law_total : Stmt := top 26
abbrev N_law_total : List Str := ["tab", "less"]
theorem sc_law_total : FnScope N_law_total ["tab"] (defScope s_law_total) := ⟨rfl, rfl, rfl, by decide +kernel, rfl, by decide +kernel, by decide +kernel⟩

abbrev s_law_code : Stmt := top 27
abbrev N_law_code : List Str := ["tab", "place", "m", "more", "turn", "marks", "first", "lower", "upper", "code"]
theorem sc_law_code : FnScope N_law_code ["tab", "place"] (defScope s_law_code) := ⟨rfl, rfl, rfl, by decide +kernel, rfl, by decide +kernel, by decide +kernel⟩

abbrev s_law_class : Stmt := top 28
abbrev N_law_class : List Str := ["tab", "steps", "place", "left", "step"]
theorem sc_law_class : FnScope N_law_class ["tab", "steps", "place"] (defScope s_law_class) := ⟨rfl, rfl, rfl, by decide +kernel, rfl, by decide +kernel, by decide +kernel⟩

abbrev s_law_led_on : Stmt := top 29
abbrev N_law_led_on : List Str := ["cells", "periods", "n", "total", "rounds", "rows", "size", "count", "steps", "k", "row", "p", "room", "m", "q"]
theorem sc_law_led_on : FnScope N_law_led_on ["cells", "periods", "n", "total", "rounds"] (defScope s_law_led_on) := ⟨rfl, rfl, rfl, by decide +kernel, rfl, by decide +kernel, by decide +kernel⟩

abbrev s_law_places : Stmt := top 30
abbrev N_law_places : List Str := ["n", "row", "found", "draw"]
theorem sc_law_places : FnScope N_law_places ["n", "row"] (defScope s_law_places) := ⟨rfl, rfl, rfl, by decide +kernel, rfl, by decide +kernel, by decide +kernel⟩

abbrev s_law_asked : Stmt := top 31
abbrev N_law_asked : List Str := ["handed", "n", "total", "tab", "steps", "row", "at", "due"]
theorem sc_law_asked : FnScope N_law_asked ["handed", "n", "total", "tab", "steps", "row"] (defScope s_law_asked) := ⟨rfl, rfl, rfl, by decide +kernel, rfl, by decide +kernel, by decide +kernel⟩

abbrev s_law_two : Stmt := top 32
abbrev N_law_two : List Str := ["row", "first", "second"]
theorem sc_law_two : FnScope N_law_two ["row"] (defScope s_law_two) := ⟨rfl, rfl, rfl, by decide +kernel, rfl, by decide +kernel, by decide +kernel⟩

abbrev s_law_gcd : Stmt := top 33
abbrev N_law_gcd : List Str := ["first", "second", "a", "b", "k", "rest"]
theorem sc_law_gcd : FnScope N_law_gcd ["first", "second"] (defScope s_law_gcd) := ⟨rfl, rfl, rfl, by decide +kernel, rfl, by decide +kernel, by decide +kernel⟩

abbrev s_law_two_asked : Stmt := top 34
abbrev N_law_two_asked : List Str := ["low", "high", "draw", "unit", "most", "lengths", "n", "due", "at"]
theorem sc_law_two_asked : FnScope N_law_two_asked ["low", "high", "draw"] (defScope s_law_two_asked) := ⟨rfl, rfl, rfl, by decide +kernel, rfl, by decide +kernel, by decide +kernel⟩

abbrev s_law_told : Stmt := top 35
abbrev N_law_told : List Str := ["which", "periods", "length", "place", "e", "many", "beyond", "none"]
theorem sc_law_told : FnScope N_law_told ["which", "periods", "length", "place"] (defScope s_law_told) := ⟨rfl, rfl, rfl, by decide +kernel, rfl, by decide +kernel, by decide +kernel⟩

abbrev s_law_refused : Stmt := top 36
abbrev N_law_refused : List Str := ["told", "kind", "due"]
theorem sc_law_refused : FnScope N_law_refused ["told", "kind", "due"] (defScope s_law_refused) := ⟨rfl, rfl, rfl, by decide +kernel, rfl, by decide +kernel, by decide +kernel⟩

abbrev s_law_refusals : Stmt := top 37
abbrev N_law_refusals : List Str := ["periods", "at", "bad", "length", "n", "spoilt", "which", "place"]
theorem sc_law_refusals : FnScope N_law_refusals ["periods", "at", "bad", "length", "n"] (defScope s_law_refusals) := ⟨rfl, rfl, rfl, by decide +kernel, rfl, by decide +kernel, by decide +kernel⟩

abbrev s_law : Stmt := top 38
abbrev N_law : List Str := ["script", "cells", "plan", "limit", "n", "periods", "spots", "near", "handed", "big", "most", "m", "more", "tab", "total", "great", "k", "far", "led", "row", "pair", "bad", "length", "p", "draw"]
theorem sc_law : FnScope N_law ["script"] (defScope s_law) := ⟨rfl, rfl, rfl, by decide +kernel, rfl, by decide +kernel, by decide +kernel⟩
structure Txt (Pg : Program) (w : World) (K : PySem.W.Frag) (mg : Str → Option Value) where
  a_check_range : Addr
  d_check_range : FuncData
  F_check_range : Fun K "check_range" "check_range" s_check_range a_check_range d_check_range
  g_check_range : mg "check_range" = some (.ref a_check_range)
  b_check_range : Binds K d_check_range ["value", "low", "high"] []
  a_check_many : Addr
  d_check_many : FuncData
  F_check_many : Fun K "check_many" "check_many" s_check_many a_check_many d_check_many
  g_check_many : mg "check_many" = some (.ref a_check_many)
  b_check_many : Binds K d_check_many ["things", "most"] []
  a_check_periods : Addr
  d_check_periods : FuncData
  F_check_periods : Fun K "check_periods" "check_periods" s_check_periods a_check_periods d_check_periods
  g_check_periods : mg "check_periods" = some (.ref a_check_periods)
  b_check_periods : Binds K d_check_periods ["periods"] []
  a_require_period : Addr
  d_require_period : FuncData
  F_require_period : Fun K "require_period" "require_period" s_require_period a_require_period d_require_period
  g_require_period : mg "require_period" = some (.ref a_require_period)
  b_require_period : Binds K d_require_period ["periods"] []
  a_rounds : Addr
  d_rounds : FuncData
  F_rounds : Fun K "_rounds" "_rounds" s_rounds a_rounds d_rounds
  g_rounds : mg "_rounds" = some (.ref a_rounds)
  b_rounds : Binds K d_rounds ["rows"] []
  a_lessened : Addr
  d_lessened : FuncData
  F_lessened : Fun K "_lessened" "_lessened" s_lessened a_lessened d_lessened
  g_lessened : mg "_lessened" = some (.ref a_lessened)
  b_lessened : Binds K d_lessened ["rows", "rounds"] []
  a_classes : Addr
  d_classes : FuncData
  F_classes : Fun K "_classes" "_classes" s_classes a_classes d_classes
  g_classes : mg "_classes" = some (.ref a_classes)
  b_classes : Binds K d_classes ["rows", "length"] []
  a_class_count : Addr
  d_class_count : FuncData
  F_class_count : Fun K "class_count" "class_count" s_class_count a_class_count d_class_count
  g_class_count : mg "class_count" = some (.ref a_class_count)
  b_class_count : Binds K d_class_count ["periods", "length"] []
  a_class_at : Addr
  d_class_at : FuncData
  F_class_at : Fun K "_class_at" "_class_at" s_class_at a_class_at d_class_at
  g_class_at : mg "_class_at" = some (.ref a_class_at)
  b_class_at : Binds K d_class_at ["rows", "length", "place"] []
  a_class_of : Addr
  d_class_of : FuncData
  F_class_of : Fun K "class_of" "class_of" s_class_of a_class_of d_class_of
  g_class_of : mg "class_of" = some (.ref a_class_of)
  b_class_of : Binds K d_class_of ["periods", "length", "place"] []
  a_law_dig : Addr
  d_law_dig : FuncData
  F_law_dig : Fun K "_law_dig" "_law_dig" s_law_dig a_law_dig d_law_dig
  g_law_dig : mg "_law_dig" = some (.ref a_law_dig)
  b_law_dig : Binds K d_law_dig ["cells", "place", "sizes"] []
  a_law_number : Addr
  d_law_number : FuncData
  F_law_number : Fun K "_law_number" "_law_number" s_law_number a_law_number d_law_number
  g_law_number : mg "_law_number" = some (.ref a_law_number)
  b_law_number : Binds K d_law_number ["told", "due"] []
  a_law_closing : Addr
  d_law_closing : FuncData
  F_law_closing : Fun K "_law_closing" "_law_closing" s_law_closing a_law_closing d_law_closing
  g_law_closing : mg "_law_closing" = some (.ref a_law_closing)
  b_law_closing : Binds K d_law_closing ["periods", "n"] []
  a_law_firsts : Addr
  d_law_firsts : FuncData
  F_law_firsts : Fun K "_law_firsts" "_law_firsts" s_law_firsts a_law_firsts d_law_firsts
  g_law_firsts : mg "_law_firsts" = some (.ref a_law_firsts)
  b_law_firsts : Binds K d_law_firsts ["marks"] []
  a_law_below : Addr
  d_law_below : FuncData
  F_law_below : Fun K "_law_below" "_law_below" s_law_below a_law_below d_law_below
  g_law_below : mg "_law_below" = some (.ref a_law_below)
  b_law_below : Binds K d_law_below ["firsts", "first"] []
  a_law_table : Addr
  d_law_table : FuncData
  F_law_table : Fun K "_law_table" "_law_table" s_law_table a_law_table d_law_table
  g_law_table : mg "_law_table" = some (.ref a_law_table)
  b_law_table : Binds K d_law_table ["periods", "n", "m", "more"] []
  a_law_total : Addr
  d_law_total : FuncData
  F_law_total : Fun K "_law_total" "_law_total" s_law_total a_law_total d_law_total
  g_law_total : mg "_law_total" = some (.ref a_law_total)
  b_law_total : Binds K d_law_total ["tab"] []
  a_law_code : Addr
  d_law_code : FuncData
  F_law_code : Fun K "_law_code" "_law_code" s_law_code a_law_code d_law_code
  g_law_code : mg "_law_code" = some (.ref a_law_code)
  b_law_code : Binds K d_law_code ["tab", "place"] []
  a_law_class : Addr
  d_law_class : FuncData
  F_law_class : Fun K "_law_class" "_law_class" s_law_class a_law_class d_law_class
  g_law_class : mg "_law_class" = some (.ref a_law_class)
  b_law_class : Binds K d_law_class ["tab", "steps", "place"] []
  a_law_led_on : Addr
  d_law_led_on : FuncData
  F_law_led_on : Fun K "_law_led_on" "_law_led_on" s_law_led_on a_law_led_on d_law_led_on
  g_law_led_on : mg "_law_led_on" = some (.ref a_law_led_on)
  b_law_led_on : Binds K d_law_led_on ["cells", "periods", "n", "total", "rounds"] []
  a_law_places : Addr
  d_law_places : FuncData
  F_law_places : Fun K "_law_places" "_law_places" s_law_places a_law_places d_law_places
  g_law_places : mg "_law_places" = some (.ref a_law_places)
  b_law_places : Binds K d_law_places ["n", "row"] []
  a_law_asked : Addr
  d_law_asked : FuncData
  F_law_asked : Fun K "_law_asked" "_law_asked" s_law_asked a_law_asked d_law_asked
  g_law_asked : mg "_law_asked" = some (.ref a_law_asked)
  b_law_asked : Binds K d_law_asked ["handed", "n", "total", "tab", "steps", "row"] []
  a_law_two : Addr
  d_law_two : FuncData
  F_law_two : Fun K "_law_two" "_law_two" s_law_two a_law_two d_law_two
  g_law_two : mg "_law_two" = some (.ref a_law_two)
  b_law_two : Binds K d_law_two ["row"] []
  a_law_gcd : Addr
  d_law_gcd : FuncData
  F_law_gcd : Fun K "_law_gcd" "_law_gcd" s_law_gcd a_law_gcd d_law_gcd
  g_law_gcd : mg "_law_gcd" = some (.ref a_law_gcd)
  b_law_gcd : Binds K d_law_gcd ["first", "second"] []
  a_law_two_asked : Addr
  d_law_two_asked : FuncData
  F_law_two_asked : Fun K "_law_two_asked" "_law_two_asked" s_law_two_asked a_law_two_asked d_law_two_asked
  g_law_two_asked : mg "_law_two_asked" = some (.ref a_law_two_asked)
  b_law_two_asked : Binds K d_law_two_asked ["low", "high", "draw"] []
  a_law_told : Addr
  d_law_told : FuncData
  F_law_told : Fun K "_law_told" "_law_told" s_law_told a_law_told d_law_told
  g_law_told : mg "_law_told" = some (.ref a_law_told)
  b_law_told : Binds K d_law_told ["which", "periods", "length", "place"] []
  a_law_refused : Addr
  d_law_refused : FuncData
  F_law_refused : Fun K "_law_refused" "_law_refused" s_law_refused a_law_refused d_law_refused
  g_law_refused : mg "_law_refused" = some (.ref a_law_refused)
  b_law_refused : Binds K d_law_refused ["told", "kind", "due"] []
  a_law_refusals : Addr
  d_law_refusals : FuncData
  F_law_refusals : Fun K "_law_refusals" "_law_refusals" s_law_refusals a_law_refusals d_law_refusals
  g_law_refusals : mg "_law_refusals" = some (.ref a_law_refusals)
  b_law_refusals : Binds K d_law_refusals ["periods", "at", "bad", "length", "n"] []
  a_law : Addr
  d_law : FuncData
  F_law : Fun K "law" "law" s_law a_law d_law
  g_law : mg "law" = some (.ref a_law)
  b_law : Binds K d_law ["script"] []
  k_class_count_0 : KBn K d_class_count ["periods", "length"] 0 ["length", "periods"] (gI [1, 0]) (gI [1, 0])
  z_ValueError : mg "ValueError" = none
  z_abs : mg "abs" = none
  z_bool : mg "bool" = none
  z_int : mg "int" = none
  z_isinstance : mg "isinstance" = none
  z_len : mg "len" = none
  z_list : mg "list" = none
  z_max : mg "max" = none
  z_min : mg "min" = none
  z_range : mg "range" = none
  z_set : mg "set" = none
  z_sorted : mg "sorted" = none
  z_tuple : mg "tuple" = none
  tk_LONGEST : Tok
  c_LONGEST : mg "LONGEST" = some (.int 1000000000000000000 tk_LONGEST)
  tk_MOST_PERIODS : Tok
  c_MOST_PERIODS : mg "MOST_PERIODS" = some (.int 6 tk_MOST_PERIODS)
  C_NoPeriod : Addr
  x_NoPeriod : ExcN0 K mg "NoPeriod" C_NoPeriod
  C_OutOfBounds : Addr
  I_OutOfBounds : Addr
  D_OutOfBounds : FuncData
  x_OutOfBounds : ∀ {base : Heap}, ExcN Pg w K mg base "OutOfBounds" "value" C_OutOfBounds I_OutOfBounds D_OutOfBounds
  C_TooMany : Addr
  I_TooMany : Addr
  D_TooMany : FuncData
  x_TooMany : ∀ {base : Heap}, ExcN Pg w K mg base "TooMany" "most" C_TooMany I_TooMany D_TooMany
  gC_NoPeriod : mg "NoPeriod" = some (.ref C_NoPeriod)
  gC_OutOfBounds : mg "OutOfBounds" = some (.ref C_OutOfBounds)
  gC_TooMany : mg "TooMany" = some (.ref C_TooMany)
  C_WordError : Addr
  gC_WordError : mg "WordError" = some (.ref C_WordError)
  q_OutOfBounds_NoPeriod : PySem.W.kitOne K (.ref C_OutOfBounds) (.ref C_NoPeriod) = some false
  q_TooMany_NoPeriod : PySem.W.kitOne K (.ref C_TooMany) (.ref C_NoPeriod) = some false
  q_NoPeriod_NoPeriod : PySem.W.kitOne K (.ref C_NoPeriod) (.ref C_NoPeriod) = some true
  q_OutOfBounds_OutOfBounds : PySem.W.kitOne K (.ref C_OutOfBounds) (.ref C_OutOfBounds) = some true
  q_TooMany_OutOfBounds : PySem.W.kitOne K (.ref C_TooMany) (.ref C_OutOfBounds) = some false
  q_NoPeriod_OutOfBounds : PySem.W.kitOne K (.ref C_NoPeriod) (.ref C_OutOfBounds) = some false
  q_OutOfBounds_TooMany : PySem.W.kitOne K (.ref C_OutOfBounds) (.ref C_TooMany) = some false
  q_TooMany_TooMany : PySem.W.kitOne K (.ref C_TooMany) (.ref C_TooMany) = some true
  q_NoPeriod_TooMany : PySem.W.kitOne K (.ref C_NoPeriod) (.ref C_TooMany) = some false
  q_OutOfBounds_ValueError : PySem.W.kitOne K (.ref C_OutOfBounds) (.type "ValueError") = some true
  q_TooMany_ValueError : PySem.W.kitOne K (.ref C_TooMany) (.type "ValueError") = some true
  q_NoPeriod_ValueError : PySem.W.kitOne K (.ref C_NoPeriod) (.type "ValueError") = some true
  w_OutOfBounds_WordError : PySem.W.exmOne K (.ref C_OutOfBounds) (.ref C_WordError) = some true
  w_TooMany_WordError : PySem.W.exmOne K (.ref C_TooMany) (.ref C_WordError) = some true
  w_NoPeriod_WordError : PySem.W.exmOne K (.ref C_NoPeriod) (.ref C_WordError) = some true
section
variable {Pg : Program} {w : World} {K : PySem.W.Frag} {mg : Str → Option Value} {base : Heap}
theorem is_NoPeriod_ok (T : Txt Pg w K mg) {e : Exn} {cls : Value} (h : mg e.cls = some cls) : IsOk K cls (.ref T.C_NoPeriod) (is_NoPeriod e) := by
  unfold is_NoPeriod
  by_cases h_OutOfBounds : e.cls = "OutOfBounds"
  · rw [h_OutOfBounds, (T.x_OutOfBounds (base := {})).gC] at h
    rw [if_pos h_OutOfBounds]
    exact .inr ⟨_, _, (Option.some.inj h).symm, (T.x_OutOfBounds (base := {})).ec, T.q_OutOfBounds_NoPeriod, rfl⟩
  rw [if_neg h_OutOfBounds]
  by_cases h_TooMany : e.cls = "TooMany"
  · rw [h_TooMany, (T.x_TooMany (base := {})).gC] at h
    rw [if_pos h_TooMany]
    exact .inr ⟨_, _, (Option.some.inj h).symm, (T.x_TooMany (base := {})).ec, T.q_TooMany_NoPeriod, rfl⟩
  rw [if_neg h_TooMany]
  by_cases h_NoPeriod : e.cls = "NoPeriod"
  · rw [h_NoPeriod, T.x_NoPeriod.gC] at h
    rw [if_pos h_NoPeriod]
    exact .inr ⟨_, _, (Option.some.inj h).symm, T.x_NoPeriod.ec, T.q_NoPeriod_NoPeriod, rfl⟩
  rw [if_neg h_NoPeriod]
  exact .inl rfl
theorem is_OutOfBounds_ok (T : Txt Pg w K mg) {e : Exn} {cls : Value} (h : mg e.cls = some cls) : IsOk K cls (.ref T.C_OutOfBounds) (is_OutOfBounds e) := by
  unfold is_OutOfBounds
  by_cases h_OutOfBounds : e.cls = "OutOfBounds"
  · rw [h_OutOfBounds, (T.x_OutOfBounds (base := {})).gC] at h
    rw [if_pos h_OutOfBounds]
    exact .inr ⟨_, _, (Option.some.inj h).symm, (T.x_OutOfBounds (base := {})).ec, T.q_OutOfBounds_OutOfBounds, rfl⟩
  rw [if_neg h_OutOfBounds]
  by_cases h_TooMany : e.cls = "TooMany"
  · rw [h_TooMany, (T.x_TooMany (base := {})).gC] at h
    rw [if_pos h_TooMany]
    exact .inr ⟨_, _, (Option.some.inj h).symm, (T.x_TooMany (base := {})).ec, T.q_TooMany_OutOfBounds, rfl⟩
  rw [if_neg h_TooMany]
  by_cases h_NoPeriod : e.cls = "NoPeriod"
  · rw [h_NoPeriod, T.x_NoPeriod.gC] at h
    rw [if_pos h_NoPeriod]
    exact .inr ⟨_, _, (Option.some.inj h).symm, T.x_NoPeriod.ec, T.q_NoPeriod_OutOfBounds, rfl⟩
  rw [if_neg h_NoPeriod]
  exact .inl rfl
theorem is_TooMany_ok (T : Txt Pg w K mg) {e : Exn} {cls : Value} (h : mg e.cls = some cls) : IsOk K cls (.ref T.C_TooMany) (is_TooMany e) := by
  unfold is_TooMany
  by_cases h_OutOfBounds : e.cls = "OutOfBounds"
  · rw [h_OutOfBounds, (T.x_OutOfBounds (base := {})).gC] at h
    rw [if_pos h_OutOfBounds]
    exact .inr ⟨_, _, (Option.some.inj h).symm, (T.x_OutOfBounds (base := {})).ec, T.q_OutOfBounds_TooMany, rfl⟩
  rw [if_neg h_OutOfBounds]
  by_cases h_TooMany : e.cls = "TooMany"
  · rw [h_TooMany, (T.x_TooMany (base := {})).gC] at h
    rw [if_pos h_TooMany]
    exact .inr ⟨_, _, (Option.some.inj h).symm, (T.x_TooMany (base := {})).ec, T.q_TooMany_TooMany, rfl⟩
  rw [if_neg h_TooMany]
  by_cases h_NoPeriod : e.cls = "NoPeriod"
  · rw [h_NoPeriod, T.x_NoPeriod.gC] at h
    rw [if_pos h_NoPeriod]
    exact .inr ⟨_, _, (Option.some.inj h).symm, T.x_NoPeriod.ec, T.q_NoPeriod_TooMany, rfl⟩
  rw [if_neg h_NoPeriod]
  exact .inl rfl
theorem is_ValueError_ok (T : Txt Pg w K mg) {e : Exn} {cls : Value} (h : mg e.cls = some cls) : IsOk K cls (.type "ValueError") (is_ValueError e) := by
  unfold is_ValueError
  by_cases h_OutOfBounds : e.cls = "OutOfBounds"
  · rw [h_OutOfBounds, (T.x_OutOfBounds (base := {})).gC] at h
    rw [if_pos h_OutOfBounds]
    exact .inr ⟨_, _, (Option.some.inj h).symm, (T.x_OutOfBounds (base := {})).ec, T.q_OutOfBounds_ValueError, rfl⟩
  rw [if_neg h_OutOfBounds]
  by_cases h_TooMany : e.cls = "TooMany"
  · rw [h_TooMany, (T.x_TooMany (base := {})).gC] at h
    rw [if_pos h_TooMany]
    exact .inr ⟨_, _, (Option.some.inj h).symm, (T.x_TooMany (base := {})).ec, T.q_TooMany_ValueError, rfl⟩
  rw [if_neg h_TooMany]
  by_cases h_NoPeriod : e.cls = "NoPeriod"
  · rw [h_NoPeriod, T.x_NoPeriod.gC] at h
    rw [if_pos h_NoPeriod]
    exact .inr ⟨_, _, (Option.some.inj h).symm, T.x_NoPeriod.ec, T.q_NoPeriod_ValueError, rfl⟩
  rw [if_neg h_NoPeriod]
  exact .inl rfl
theorem kn_WordError_ok (T : Txt Pg w K mg) {e : Exn} (h : kn_WordError e = true) : ∃ cls, mg e.cls = some cls ∧ PySem.W.exmOne K cls (.ref T.C_WordError) = some true := by
  unfold kn_WordError at h
  simp only [Bool.or_eq_true, decide_eq_true_eq] at h
  rcases h with (h | h) | h
  · exact ⟨_, by rw [h]; exact (T.x_OutOfBounds (base := {})).gC, T.w_OutOfBounds_WordError⟩
  · exact ⟨_, by rw [h]; exact (T.x_TooMany (base := {})).gC, T.w_TooMany_WordError⟩
  · exact ⟨_, by rw [h]; exact T.x_NoPeriod.gC, T.w_NoPeriod_WordError⟩
theorem ok_check_range (T : Txt Pg w K mg) : FnOk Pg w K mg base (L2N.CX Pg w) 3 T.a_check_range T.d_check_range ["value", "low", "high"] (SpM K mg 3 (fun (a : Int × Int × Int) => [.im a.1, .im a.2.1, .im a.2.2]) (fun a => m_check_range a.1 a.2.1 a.2.2) (fun b => .im b)) := by
  refine okN T.F_check_range sc_check_range (fun vs H Q E h => h.1) fun cdv A outer s H vs Q E hr h => ?_
  obtain ⟨hl, ⟨value, low, high⟩, I, ρ, Θ, hE, h⟩ := h
  have hE : Env K I H (start N_check_range vs) [.im (value : Int), .im (low : Int), .im (high : Int)] ρ Θ := st_start hE (by rw [hl]; first | rfl | done)
  refine ⟨_, (pss_one (ps_if (PW.pt (pw_or (pt_cmpR op_lt (pv 0) (pv 1) (nomark _)) (pw_or1 (pt_cmpR op_gt (pv 0) (pv 2) (nomark _))))) (pss_one (L2N.ps_raise rfl (L2N.takes_of rfl rfl rfl rfl) (pmk_oexN (x := "OutOfBounds") (T.x_OutOfBounds (base := base)).T (T.x_OutOfBounds (base := base)).iC (T.x_OutOfBounds (base := base)).tI (T.x_OutOfBounds (base := base)).ini (hr.mono (by decide)) (T.x_OutOfBounds (base := base)).bI passN (by rfl) (T.x_OutOfBounds (base := base)).gC (pa_cons (pv 0) pa_nil)))) pss_nil)), ?_⟩
  generalize start N_check_range vs = σ at hE ⊢
  change wp (m_check_range value low high) _ _ at h
  unfold m_check_range at h
  refine st_if hE (ht_or_pp (ht_tt (hf_pp hr_lt (hf_var rfl) (hf_var rfl))) (ht_tt (hf_pp hr_gt (hf_var rfl) (hf_var rfl)))) h (fun h => ?_) (fun h => ?_)
  ·
    exact st_raise (W := fun cls d _ H' => E cls d H') hE (hf_var rfl) (T.x_OutOfBounds (base := base)).gC (fun I' H' cls d hm z => h I' H' cls d hm z.clear)
  ·
    refine uNext ?_
    exact st_retN hE h

theorem ok_check_many (T : Txt Pg w K mg) : FnOk Pg w K mg base (L2N.CX Pg w) 3 T.a_check_many T.d_check_many ["things", "most"] (SpM K mg 2 (fun (a : (SeqL Int) × Int) => [.im a.1, .im a.2]) (fun a => m_check_many a.1 a.2) (fun b => .im b)) := by
  refine okN T.F_check_many sc_check_many (fun vs H Q E h => h.1) fun cdv A outer s H vs Q E hr h => ?_
  obtain ⟨hl, ⟨things, most⟩, I, ρ, Θ, hE, h⟩ := h
  have hE : Env K I H (start N_check_many vs) [.im (things : (SeqL Int)), .im (most : Int)] ρ Θ := st_start hE (by rw [hl]; first | rfl | done)
  refine ⟨_, (pss_one (ps_if (pt_cmpR op_gt (pe_callB call_len_seq (by rfl) T.z_len PySem.boot_len (pa_cons (pv 0) pa_nil)) (pv 1) (nomark _)) (pss_one (L2N.ps_raise rfl (L2N.takes_of rfl rfl rfl rfl) (pmk_oexN (x := "TooMany") (T.x_TooMany (base := base)).T (T.x_TooMany (base := base)).iC (T.x_TooMany (base := base)).tI (T.x_TooMany (base := base)).ini (hr.mono (by decide)) (T.x_TooMany (base := base)).bI passN (by rfl) (T.x_TooMany (base := base)).gC (pa_cons (pv 1) pa_nil)))) pss_nil)), ?_⟩
  generalize start N_check_many vs = σ at hE ⊢
  change wp (m_check_many things most) _ _ at h
  unfold m_check_many at h
  refine st_if hE (ht_tt (hf_pp hr_gt (hf_lenS (hΓ := rfl)) (hf_var rfl))) h (fun h => ?_) (fun h => ?_)
  ·
    exact st_raise (W := fun cls d _ H' => E cls d H') hE (hf_var rfl) (T.x_TooMany (base := base)).gC (fun I' H' cls d hm z => h I' H' cls d hm z.clear)
  ·
    refine uNext ?_
    exact st_retN hE h

theorem ok_check_periods (T : Txt Pg w K mg) : FnOk Pg w K mg base (L2N.CX Pg w) 4 T.a_check_periods T.d_check_periods ["periods"] (SpM K mg 1 (fun (a : (SeqL Int)) => [.im a]) (fun a => m_check_periods a) (fun b => .im b)) := by
  refine okN T.F_check_periods sc_check_periods (fun vs H Q E h => h.1) fun cdv A outer s H vs Q E hr h => ?_
  obtain ⟨hl, periods, I, ρ, Θ, hE, h⟩ := h
  have hE : Env K I H (start N_check_periods vs) [.im (periods : (SeqL Int)), .any] ρ Θ := st_start hE (by rw [hl]; first | rfl | done)
  refine ⟨_, (pss_cons (ps_expr (pe_callS (ok_check_many (base := base) T) (hr.mono (by decide)) (by rfl) T.g_check_many T.F_check_many.kp T.b_check_many (fun σ => L2N.passAt (L2N.takes_of rfl rfl rfl rfl) σ) (pa_cons (pv 0) (pa_cons (pe_glob (v := .int 6) (by rfl) T.c_MOST_PERIODS ⟨_, rfl⟩) pa_nil))))
      (pss_one (ps_for (passes_of rfl) rfl (pi_seq (pv 0)) (pg_name (i := 1) sc_check_periods.nd rfl (.inl rfl)) (pss_one (ps_expr (pe_callS (ok_check_range (base := base) T) (hr.mono (by decide)) (by rfl) T.g_check_range T.F_check_range.kp T.b_check_range (fun σ => L2N.passAt (L2N.takes_of rfl rfl rfl rfl) σ) (pa_cons (pv 1) (pa_cons pe_int (pa_cons (pe_glob (v := .int 1000000000000000000) (by rfl) T.c_LONGEST ⟨_, rfl⟩) pa_nil))))))))), ?_⟩
  generalize start N_check_periods vs = σ at hE ⊢
  change wp (m_check_periods periods) _ _ at h
  unfold m_check_periods at h
  refine uSeq (uDrop (uCallS (uCons ?_)))
  refine st_var hE (i := 0) rfl fun v hE => ?_
  refine uCons ?_
  refine st_push hE (hf_c (a := (6 : Int)) rfl trivial) fun hE => ?_
  refine uNil ?_
  refine st_call (periods, (6 : Int)) hE rfl rfl h (fun e x I' H' cls d hm z => x _ H' cls d hm z.clear) fun t1 I H v hE h => ?_
  have hE := hE.pop
  refine uFor (uSqI ?_)
  refine st_var hE (i := 0) rfl fun v hE => ?_
  refine it_seq hE fun J cq1 hE hJ => ?_
  refine st_forS (α := Int) hJ (fun (_ : Unit) => [.im (periods : (SeqL Int)), .any]) hE ⟨.inr rfl, .inl rfl, trivial⟩ h (fun period s I H σ v N B hE h => ?_) (fun s I H σ hE h => ?_)
  ·
    refine st_store (Γ' := [.im (periods : (SeqL Int)), .im (period : Int)]) hE rfl (by decide : (1 : Nat) < 2) fun σ hE => ?_
    refine uDrop (uCallS (uCons ?_))
    refine st_push hE (hf_var rfl) fun hE => ?_
    refine uCons ?_
    refine st_push hE (hf_c (a := (1 : Int)) rfl trivial) fun hE => ?_
    refine uCons ?_
    refine st_push hE (hf_c (a := (1000000000000000000 : Int)) rfl trivial) fun hE => ?_
    refine uNil ?_
    refine st_call (period, (1 : Int), (1000000000000000000 : Int)) hE rfl rfl h (fun e x I' H' cls d hm z => x _ H' cls d hm z.clear.nip) fun t3 I H v hE h => ?_
    have hE := hE.pop
    exact h _ _ _ (hE.weak (Γ' := [.im (periods : (SeqL Int)), .any]) ⟨.inr rfl, .inl rfl, trivial⟩)
  exact st_retN hE h

theorem ok_require_period (T : Txt Pg w K mg) : FnOk Pg w K mg base (L2N.CX Pg w) 2 T.a_require_period T.d_require_period ["periods"] (SpM K mg 1 (fun (a : (SeqL Int)) => [.im a]) (fun a => m_require_period a) (fun b => .im b)) := by
  refine okN T.F_require_period sc_require_period (fun vs H Q E h => h.1) fun cdv A outer s H vs Q E hr h => ?_
  obtain ⟨hl, periods, I, ρ, Θ, hE, h⟩ := h
  have hE : Env K I H (start N_require_period vs) [.im (periods : (SeqL Int))] ρ Θ := st_start hE (by rw [hl]; first | rfl | done)
  refine ⟨_, (pss_one (ps_if (pt_cmpR op_eq (pe_callB call_len_seq (by rfl) T.z_len PySem.boot_len (pa_cons (pv 0) pa_nil)) pe_int (nomark _)) (pss_one (L2N.ps_raise rfl (L2N.takes_of rfl rfl rfl rfl) (pmk_own0N PySem.F.excBase_ValueError T.x_NoPeriod.q T.x_NoPeriod.gC T.x_NoPeriod.kC (raises_own T.x_NoPeriod.exC T.x_NoPeriod.tyC) (by rfl)))) pss_nil)), ?_⟩
  generalize start N_require_period vs = σ at hE ⊢
  change wp (m_require_period periods) _ _ at h
  unfold m_require_period at h
  refine st_if hE (ht_tt (hf_pp hr_eqI (hf_lenS (hΓ := rfl)) (hf_c (a := (0 : Int)) rfl trivial))) h (fun h => ?_) (fun h => ?_)
  ·
    exact st_raise0 (W := fun cls d _ H' => E cls d H') hE T.x_NoPeriod.gC (fun I' H' cls d hm z => h I' H' cls d hm z.clear)
  ·
    refine uNext ?_
    exact st_retN hE h

theorem ok_rounds (T : Txt Pg w K mg) : FnOk Pg w K mg base (L2N.CX Pg w) 1 T.a_rounds T.d_rounds ["rows"] (SpM K mg 1 (fun (a : (List Int)) => [.im a]) (fun a => m_rounds a) (fun b => .im b)) := by
  refine okN T.F_rounds sc_rounds (fun vs H Q E h => h.1) fun cdv A outer s H vs Q E hr h => ?_
  obtain ⟨hl, rows, I, ρ, Θ, hE, h⟩ := h
  have hE : Env K I H (start N_rounds vs) [.im (rows : (List Int)), .any, .any, .any] ρ Θ := st_start hE (by rw [hl]; first | rfl | done)
  refine ⟨_, (pss_cons (ps_set (i := 1) sc_rounds.nd rfl (.inr rfl) (pe_ix ix_list (pv 0) pe_int (fun _ _ => rfl)))
      (pss_cons (ps_setLc (i := 2) (own := [("period", 3)]) (g := gName 3) (by rfl) sc_rounds.nd rfl rfl (sw_true rfl rfl rfl (by decide +kernel)) (pi_list (pv 0)) (blkOk_by (N := N_rounds) (sc := defScope s_rounds) (by decide +kernel)) (fun _ _ _ _ _ => pg_name (i := 3) sc_rounds.nd rfl (.inl rfl)) (fun _ _ _ _ _ => pts_one (pt_cmpR op_ne (pe_op op_mod (pv 3) (pv 1)) pe_int (nomark _))) (fun _ _ _ _ _ => (pe_op op_fdivW (pv 3) (pv 1))))
      (pss_one (ps_ret (pe_callBK (cr_minDf rfl hr.units) (by rfl) T.z_min (by decide +kernel) (pa_cons (pv 2) pa_nil) (pk_cons pe_int pk_nil)))))), ?_⟩
  generalize start N_rounds vs = σ at hE ⊢
  change wp (m_rounds rows) _ _ at h
  unfold m_rounds at h
  refine uSeq ?_
  refine st_setm (Γ' := fun (least : Int) => [.im (rows : (List Int)), .im (least : Int), .any, .any]) hE (hf_ixLp rfl (hf_c (a := (0 : Int)) rfl trivial)) h (fun _ => rfl) (by decide : (1 : Nat) < 4) fun least σ hE h => ?_
  refine uSeq (uAsg (uLc (uList ?_)))
  refine st_var hE (i := 0) rfl fun v hE => ?_
  refine it_list hE fun ja hJ => ?_
  refine st_lcf (α := Int) (β := Int) (i := 3) hJ hE rfl h (fun ys4 I H v hE h => ?_) (fun period I H σ ρ' Θ' Qt hE h => ?_) (fun period I H σ ρ' Θ' Qe hE h => ?_)
  rotate_left 1
  ·
    refine st_htm hE (ht_tt (hf_mp (fun _ => hr_neI) (hf_pp hr_mod (hf_var rfl) (hf_var rfl)) (hf_c (a := (0 : Int)) rfl trivial))) h fun b3 h => ?_
    exact h _ _ hE
  ·
    refine st_pushm hE (hf_pp hr_div (hf_var rfl) (hf_var rfl)) h fun t1 hE h => ?_
    exact h _ _ _ hE
  refine st_freezeT hE fun I hE => ?_
  refine st_store (Γ' := [.im (rows : (List Int)), .im (least : Int), .im (ys4 : (List Int)), .any]) hE rfl (by decide : (2 : Nat) < 4) fun σ hE => ?_
  exact st_ret hE (hf_minDfL (hΓ := rfl) (hf_c (a := (0 : Int)) rfl trivial)) h

theorem ok_lessened (T : Txt Pg w K mg) : FnOk Pg w K mg base (L2N.CX Pg w) 1 T.a_lessened T.d_lessened ["rows", "rounds"] (SpM K mg 2 (fun (a : (List Int) × Int) => [.im a.1, .im a.2]) (fun a => m_lessened a.1 a.2) (fun b => .im b)) := by
  refine okN T.F_lessened sc_lessened (fun vs H Q E h => h.1) fun cdv A outer s H vs Q E hr h => ?_
  obtain ⟨hl, ⟨rows, rounds⟩, I, ρ, Θ, hE, h⟩ := h
  have hE : Env K I H (start N_lessened vs) [.im (rows : (List Int)), .im (rounds : Int), .any, .any, .any, .any] ρ Θ := st_start hE (by rw [hl]; first | rfl | done)
  refine ⟨_, (pss_cons (ps_set (i := 2) sc_lessened.nd rfl (.inl rfl) (pe_ix ix_list (pv 0) pe_int (fun _ _ => rfl)))
      (pss_cons (ps_set (i := 3) sc_lessened.nd rfl (.inr rfl) (pe_op op_mulW (pv 1) (pv 2)))
      (pss_cons (ps_setLc (i := 4) (own := [("period", 5)]) (g := gName 5) (by rfl) sc_lessened.nd rfl rfl (sw_true rfl rfl rfl (by decide +kernel)) (pi_list (pv 0)) (blkOk_by (N := N_lessened) (sc := defScope s_lessened) (by decide +kernel)) (fun _ _ _ _ _ => pg_name (i := 5) sc_lessened.nd rfl (.inl rfl)) (fun _ _ _ _ _ => pts_one (pt_cmpR op_gt (pv 5) (pv 3) (nomark _))) (fun _ _ _ _ _ => (pe_op op_sub (pv 5) (pv 3))))
      (pss_one (ps_ret (pe_sortSet (by rfl) T.z_sorted (by rfl) T.z_set (pe_op op_cat (pe_lst (pa_cons (pv 2) pa_nil)) (pv 4)))))))), ?_⟩
  generalize start N_lessened vs = σ at hE ⊢
  change wp (m_lessened rows rounds) _ _ at h
  unfold m_lessened at h
  refine uSeq ?_
  refine st_setm (Γ' := fun (least : Int) => [.im (rows : (List Int)), .im (rounds : Int), .im (least : Int), .any, .any, .any]) hE (hf_ixLp rfl (hf_c (a := (0 : Int)) rfl trivial)) h (fun _ => rfl) (by decide : (2 : Nat) < 6) fun least σ hE h => ?_
  refine uSeq ?_
  refine st_setm (Γ' := fun (taken : Int) => [.im (rows : (List Int)), .im (rounds : Int), .im (least : Int), .im (taken : Int), .any, .any]) hE (hf_pp hr_mul (hf_var rfl) (hf_var rfl)) h (fun _ => rfl) (by decide : (3 : Nat) < 6) fun taken σ hE h => ?_
  refine uSeq (uAsg (uLc (uList ?_)))
  refine st_var hE (i := 0) rfl fun v hE => ?_
  refine it_list hE fun ja hJ => ?_
  refine st_lcf (α := Int) (β := Int) (i := 5) hJ hE rfl h (fun ys1 I H v hE h => ?_) (fun period I H σ ρ' Θ' Qt hE h => ?_) (fun period I H σ ρ' Θ' Qe hE h => ?_)
  rotate_left 1
  ·
    refine st_htp hE (ht_tt (hf_pp hr_gt (hf_var rfl) (hf_var rfl))) ?_
    exact h _ _ hE
  ·
    refine st_push hE (hf_pp hr_sub (hf_var rfl) (hf_var rfl)) fun hE => ?_
    exact h _ _ _ hE
  refine st_freezeT hE fun I hE => ?_
  refine st_store (Γ' := [.im (rows : (List Int)), .im (rounds : Int), .im (least : Int), .im (taken : Int), .im (ys1 : (List Int)), .any]) hE rfl (by decide : (4 : Nat) < 6) fun σ hE => ?_
  refine uRet (uSortSet (uOp (uLst (uCons ?_))))
  refine st_push hE (hf_var rfl) fun hE => ?_
  refine uNil ?_
  refine st_lstI (α := Int) _ [least] rfl (by decide : (1 : Nat) ≤ line) hE fun I H v hE => ?_
  refine st_var hE (i := 4) rfl fun v hE => ?_
  refine st_catI hE h fun t2 I H v hE h => ?_
  replace hE := hE.listSeq
  refine st_sortUI hE h fun t3 I H v hE h => ?_
  exact h _ _ _ hE.clear

theorem ok_classes (T : Txt Pg w K mg) : FnOk Pg w K mg base (L2N.CX Pg w) 2 T.a_classes T.d_classes ["rows", "length"] (SpM K mg 2 (fun (a : (List Int) × Int) => [.im a.1, .im a.2]) (fun a => m_classes a.1 a.2) (fun b => .im b)) := by
  refine okN T.F_classes sc_classes (fun vs H Q E h => h.1) fun cdv A outer s H vs Q E hr h => ?_
  obtain ⟨hl, ⟨rows, length⟩, I, ρ, Θ, hE, h⟩ := h
  have hE : Env K I H (start N_classes vs) [.im (rows : (List Int)), .im (length : Int), .any, .any, .any] ρ Θ := st_start hE (by rw [hl]; first | rfl | done)
  refine ⟨_, (pss_cons (ps_set (i := 2) sc_classes.nd rfl (.inl rfl) pe_int)
      (pss_cons (ps_while (passes_of rfl) (pt_cmpR op_gt (pv 1) (pe_ix ix_list (pv 0) pe_int (fun _ _ => rfl)) (nomark _)) (pss_cons (ps_set (i := 3) sc_classes.nd rfl (.inl rfl) (pe_ix ix_list (pv 0) pe_int (fun _ _ => rfl)))
      (pss_cons (ps_set (i := 4) sc_classes.nd rfl (.inl rfl) (pe_callS (ok_rounds (base := base) T) (hr.mono (by decide)) (by rfl) T.g_rounds T.F_rounds.kp T.b_rounds (fun σ => L2N.passAt (L2N.takes_of rfl rfl rfl rfl) σ) (pa_cons (pv 0) pa_nil)))
      (pss_cons (ps_if (pt_cmpR op_eq (pv 4) pe_int (nomark _)) (pss_one (ps_ret (pe_op op_add (pv 2) (pv 3)))) pss_nil)
      (pss_cons (ps_if (pt_cmpR op_lt (pv 1) (pe_op op_mulW pe_int (pv 3)) (nomark _)) (pss_cons (ps_aug (i := 2) sc_classes.nd rfl (.inl rfl) (pe_op op_sub (pe_op op_mulW pe_int (pv 3)) (pv 1)) ip_add)
      (pss_one (ps_set (i := 4) sc_classes.nd rfl (.inl rfl) pe_int))) (pss_one (ps_set (i := 4) sc_classes.nd rfl (.inl rfl) (pe_callB (call_min2 rfl) (by rfl) T.z_min (by decide +kernel) (pa_cons (pv 4) (pa_cons (pe_op op_sub (pe_op op_fdivW (pv 1) (pv 3)) pe_int) pa_nil))))))
      (pss_cons (ps_set (i := 0) sc_classes.nd rfl (.inl rfl) (pe_callS (ok_lessened (base := base) T) (hr.mono (by decide)) (by rfl) T.g_lessened T.F_lessened.kp T.b_lessened (fun σ => L2N.passAt (L2N.takes_of rfl rfl rfl rfl) σ) (pa_cons (pv 0) (pa_cons (pv 4) pa_nil))))
      (pss_one (ps_aug (i := 1) sc_classes.nd rfl (.inl rfl) (pe_op op_mulW (pv 4) (pv 3)) ip_sub))))))))
      (pss_one (ps_ret (pe_op op_add (pv 2) (pv 1)))))), ?_⟩
  generalize start N_classes vs = σ at hE ⊢
  change wp (m_classes rows length) _ _ at h
  unfold m_classes at h
  refine uSeq ?_
  refine st_setm (Γ' := fun (added : Int) => [.im (rows : (List Int)), .im (length : Int), .im (added : Int), .any, .any]) hE (hf_c (a := (0 : Int)) rfl trivial) h (fun _ => rfl) (by decide : (2 : Nat) < 5) fun added σ hE h => ?_
  refine uSeq ?_
  refine st_while (RetP K ρ Θ (fun b => .im b) Q) (fun (s : (List Int) × Int × Int) => match s with | (rows, length, added) => [.im (rows : (List Int)), .im (length : Int), .im (added : Int), .any, .any]) hE ⟨.inr rfl, .inr rfl, .inr rfl, .inl rfl, .inl rfl, trivial⟩ h (fun r h => h) (fun s I H σ Qt hE h => ?_) (fun s I H σ N B hE h => ?_) (fun s I H σ hE h => ?_)
  ·
    obtain ⟨rows, length, added⟩ := s
    refine st_htm hE (ht_tt (hf_pm (fun _ => hr_gt) (hf_var rfl) (hf_ixLp rfl (hf_c (a := (0 : Int)) rfl trivial)))) h fun b2 h => ?_
    exact h _ _ hE
  ·
    obtain ⟨rows, length, added⟩ := s
    refine uSeq ?_
    refine st_setm (Γ' := fun (least : Int) => [.im (rows : (List Int)), .im (length : Int), .im (added : Int), .im (least : Int), .any]) hE (hf_ixLp rfl (hf_c (a := (0 : Int)) rfl trivial)) h (fun _ => rfl) (by decide : (3 : Nat) < 5) fun least σ hE h => ?_
    refine uSeq (uAsg (uCallS (uCons ?_)))
    refine st_var hE (i := 0) rfl fun v hE => ?_
    refine uNil ?_
    refine st_call rows hE rfl rfl h (fun e x I' H' cls d hm z => x _ H' cls d hm z.clear) fun t3 I H v hE h => ?_
    refine st_store (Γ' := [.im (rows : (List Int)), .im (length : Int), .im (added : Int), .im (least : Int), .im (t3 : Int)]) hE rfl (by decide : (4 : Nat) < 5) fun σ hE => ?_
    refine uSeq ?_
    refine st_if hE (ht_tt (hf_pp hr_eqI (hf_var rfl) (hf_c (a := (0 : Int)) rfl trivial))) h (fun h => ?_) (fun h => ?_)
    ·
      exact st_ret hE (hf_pp hr_add (hf_var rfl) (hf_var rfl)) h
    ·
      refine uNext (uSeq ?_)
      refine st_ifjm (fun (s : Int × Int) => match s with | (added, rounds) => [.im (rows : (List Int)), .im (length : Int), .im (added : Int), .im (least : Int), .im (rounds : Int)]) hE (ht_tt (hf_pm (fun _ => hr_lt) (hf_var rfl) (hf_pp hr_mul (hf_c (a := (2 : Int)) rfl trivial) (hf_var rfl)))) h (fun h => ?_) (fun h => ?_) (fun s I H σ hE h => ?_)
      ·
        refine uSeq ?_
        refine st_augm (i := 2) hE rfl (hf_mp (fun _ => hr_sub) (hf_pp hr_mul (hf_c (a := (2 : Int)) rfl trivial) (hf_var rfl)) (hf_var rfl)) h (by decide : (2 : Nat) < 5) fun added σ hE h => ?_
        replace hE : Env K _ _ _ [.im (rows : (List Int)), .im (length : Int), .im (added : Int), .im (least : Int), .im (t3 : Int)] _ _ := hE
        refine st_setm (Γ' := fun (rounds : Int) => [.im (rows : (List Int)), .im (length : Int), .im (added : Int), .im (least : Int), .im (rounds : Int)]) hE (hf_c (a := (1 : Int)) rfl trivial) h (fun _ => rfl) (by decide : (4 : Nat) < 5) fun rounds σ hE h => ?_
        exact h _ _ _ (hE.weak (Γ' := [.im (rows : (List Int)), .im (length : Int), .im (added : Int), .im (least : Int), .im (rounds : Int)]) ⟨.inr rfl, .inr rfl, .inr rfl, .inr rfl, .inr rfl, trivial⟩)
      ·
        refine st_setm (Γ' := fun (rounds : Int) => [.im (rows : (List Int)), .im (length : Int), .im (added : Int), .im (least : Int), .im (rounds : Int)]) hE (hf_c2m (fun _ _ => hc_min) (hf_var rfl) (hf_mp (fun _ => hr_sub) (hf_pp hr_div (hf_var rfl) (hf_var rfl)) (hf_c (a := (1 : Int)) rfl trivial))) h (fun _ => rfl) (by decide : (4 : Nat) < 5) fun rounds σ hE h => ?_
        exact h _ _ _ (hE.weak (Γ' := [.im (rows : (List Int)), .im (length : Int), .im (added : Int), .im (least : Int), .im (rounds : Int)]) ⟨.inr rfl, .inr rfl, .inr rfl, .inr rfl, .inr rfl, trivial⟩)
      obtain ⟨added, rounds⟩ := s
      refine uSeq (uAsg (uCallS (uCons ?_)))
      refine st_var hE (i := 0) rfl fun v hE => ?_
      refine uCons ?_
      refine st_push hE (hf_var rfl) fun hE => ?_
      refine uNil ?_
      refine st_call (rows, rounds) hE rfl rfl h (fun e x I' H' cls d hm z => x _ H' cls d hm z.clear) fun t11 I H v hE h => ?_
      refine st_store (Γ' := [.im (t11 : (List Int)), .im (length : Int), .im (added : Int), .im (least : Int), .im (rounds : Int)]) hE rfl (by decide : (0 : Nat) < 5) fun σ hE => ?_
      refine st_augm (i := 1) hE rfl (hf_pp hr_mul (hf_var rfl) (hf_var rfl)) h (by decide : (1 : Nat) < 5) fun length σ hE h => ?_
      replace hE : Env K _ _ _ [.im (t11 : (List Int)), .im (length : Int), .im (added : Int), .im (least : Int), .im (rounds : Int)] _ _ := hE
      exact h _ _ _ (hE.weak (Γ' := [.im (t11 : (List Int)), .im (length : Int), .im (added : Int), .any, .any]) ⟨.inr rfl, .inr rfl, .inr rfl, .inl rfl, .inl rfl, trivial⟩)
  obtain ⟨rows, length, added⟩ := s
  exact st_ret hE (hf_pp hr_add (hf_var rfl) (hf_var rfl)) h

theorem ok_class_count (T : Txt Pg w K mg) : FnOk Pg w K mg base (L2N.CX Pg w) 5 T.a_class_count T.d_class_count ["periods", "length"] (SpM K mg 2 (fun (a : (SeqL Int) × Int) => [.im a.1, .im a.2]) (fun a => m_class_count a.1 a.2) (fun b => .im b)) := by
  refine okN T.F_class_count sc_class_count (fun vs H Q E h => h.1) fun cdv A outer s H vs Q E hr h => ?_
  obtain ⟨hl, ⟨periods, length⟩, I, ρ, Θ, hE, h⟩ := h
  have hE : Env K I H (start N_class_count vs) [.im (periods : (SeqL Int)), .im (length : Int)] ρ Θ := st_start hE (by rw [hl]; first | rfl | done)
  refine ⟨_, (pss_cons (ps_expr (pe_callS (ok_check_periods (base := base) T) (hr.mono (by decide)) (by rfl) T.g_check_periods T.F_check_periods.kp T.b_check_periods (fun σ => L2N.passAt (L2N.takes_of rfl rfl rfl rfl) σ) (pa_cons (pv 0) pa_nil)))
      (pss_cons (ps_expr (pe_callS (ok_check_range (base := base) T) (hr.mono (by decide)) (by rfl) T.g_check_range T.F_check_range.kp T.b_check_range (fun σ => L2N.passAt (L2N.takes_of rfl rfl rfl rfl) σ) (pa_cons (pv 1) (pa_cons pe_int (pa_cons (pe_glob (v := .int 1000000000000000000) (by rfl) T.c_LONGEST ⟨_, rfl⟩) pa_nil)))))
      (pss_cons (ps_expr (pe_callS (ok_require_period (base := base) T) (hr.mono (by decide)) (by rfl) T.g_require_period T.F_require_period.kp T.b_require_period (fun σ => L2N.passAt (L2N.takes_of rfl rfl rfl rfl) σ) (pa_cons (pv 0) pa_nil)))
      (pss_one (ps_ret (pe_callS (ok_classes (base := base) T) (hr.mono (by decide)) (by rfl) T.g_classes T.F_classes.kp T.b_classes (fun σ => L2N.passAt (L2N.takes_of rfl rfl rfl rfl) σ) (pa_cons (pe_sortSet (by rfl) T.z_sorted (by rfl) T.z_set (pv 0)) (pa_cons (pv 1) pa_nil)))))))), ?_⟩
  generalize start N_class_count vs = σ at hE ⊢
  change wp (m_class_count periods length) _ _ at h
  unfold m_class_count at h
  refine uSeq (uDrop (uCallS (uCons ?_)))
  refine st_var hE (i := 0) rfl fun v hE => ?_
  refine uNil ?_
  refine st_call periods hE rfl rfl h (fun e x I' H' cls d hm z => x _ H' cls d hm z.clear) fun t1 I H v hE h => ?_
  have hE := hE.pop
  refine uSeq (uDrop (uCallS (uCons ?_)))
  refine st_push hE (hf_var rfl) fun hE => ?_
  refine uCons ?_
  refine st_push hE (hf_c (a := (0 : Int)) rfl trivial) fun hE => ?_
  refine uCons ?_
  refine st_push hE (hf_c (a := (1000000000000000000 : Int)) rfl trivial) fun hE => ?_
  refine uNil ?_
  refine st_call (length, (0 : Int), (1000000000000000000 : Int)) hE rfl rfl h (fun e x I' H' cls d hm z => x _ H' cls d hm z.clear) fun t2 I H v hE h => ?_
  have hE := hE.pop
  refine uSeq (uDrop (uCallS (uCons ?_)))
  refine st_var hE (i := 0) rfl fun v hE => ?_
  refine uNil ?_
  refine st_call periods hE rfl rfl h (fun e x I' H' cls d hm z => x _ H' cls d hm z.clear) fun t3 I H v hE h => ?_
  have hE := hE.pop
  refine uRet (uCallS (uCons (uSortSet ?_)))
  refine st_var hE (i := 0) rfl fun v hE => ?_
  refine st_sortUI hE h fun t4 I H v hE h => ?_
  refine uCons ?_
  refine st_push hE (hf_var rfl) fun hE => ?_
  refine uNil ?_
  refine st_call (t4, length) hE rfl rfl h (fun e x I' H' cls d hm z => x _ H' cls d hm z.clear) fun t5 I H v hE h => ?_
  exact h _ _ _ hE.clear

theorem ok_class_at (T : Txt Pg w K mg) : FnOk Pg w K mg base (L2N.CX Pg w) 3 T.a_class_at T.d_class_at ["rows", "length", "place"] (SpM K mg 3 (fun (a : (List Int) × Int × Int) => [.im a.1, .im a.2.1, .im a.2.2]) (fun a => m_class_at a.1 a.2.1 a.2.2) (fun b => .im b)) := by
  refine okN T.F_class_at sc_class_at (fun vs H Q E h => h.1) fun cdv A outer s H vs Q E hr h => ?_
  obtain ⟨hl, ⟨rows, length, place⟩, I, ρ, Θ, hE, h⟩ := h
  have hE : Env K I H (start N_class_at vs) [.im (rows : (List Int)), .im (length : Int), .im (place : Int), .any, .any, .any] ρ Θ := st_start hE (by rw [hl]; first | rfl | done)
  refine ⟨_, (pss_cons (ps_while (passes_of rfl) (pt_cmpR op_gt (pv 1) (pe_ix ix_list (pv 0) pe_int (fun _ _ => rfl)) (nomark _)) (pss_cons (ps_set (i := 3) sc_class_at.nd rfl (.inl rfl) (pe_ix ix_list (pv 0) pe_int (fun _ _ => rfl)))
      (pss_cons (ps_set (i := 2) sc_class_at.nd rfl (.inl rfl) (pe_op op_mod (pv 2) (pv 3)))
      (pss_cons (ps_set (i := 4) sc_class_at.nd rfl (.inl rfl) (pe_callS (ok_rounds (base := base) T) (hr.mono (by decide)) (by rfl) T.g_rounds T.F_rounds.kp T.b_rounds (fun σ => L2N.passAt (L2N.takes_of rfl rfl rfl rfl) σ) (pa_cons (pv 0) pa_nil)))
      (pss_cons (ps_if (pt_cmpR op_eq (pv 4) pe_int (nomark _)) (pss_one (ps_ret (pv 2))) pss_nil)
      (pss_cons (ps_if (pt_cmpR op_lt (pv 1) (pe_op op_mulW pe_int (pv 3)) (nomark _)) (pss_cons (ps_set (i := 5) sc_class_at.nd rfl (.inl rfl) (pe_op op_sub (pv 1) (pv 3)))
      (pss_cons (ps_set (i := 4) sc_class_at.nd rfl (.inl rfl) pe_int)
      (pss_one (ps_if (pt_cmpR op_ge (pv 2) (pv 5) (nomark _)) (pss_one (ps_ret (pe_op op_sub (pe_op op_add (pe_callS (ok_classes (base := base) T) (hr.mono (by decide)) (by rfl) T.g_classes T.F_classes.kp T.b_classes (fun σ => L2N.passAt (L2N.takes_of rfl rfl rfl rfl) σ) (pa_cons (pe_callS (ok_lessened (base := base) T) (hr.mono (by decide)) (by rfl) T.g_lessened T.F_lessened.kp T.b_lessened (fun σ => L2N.passAt (L2N.takes_of rfl rfl rfl rfl) σ) (pa_cons (pv 0) (pa_cons (pv 4) pa_nil))) (pa_cons (pv 5) pa_nil))) (pv 2)) (pv 5)))) pss_nil)))) (pss_one (ps_set (i := 4) sc_class_at.nd rfl (.inl rfl) (pe_callB (call_min2 rfl) (by rfl) T.z_min (by decide +kernel) (pa_cons (pv 4) (pa_cons (pe_op op_sub (pe_op op_fdivW (pv 1) (pv 3)) pe_int) pa_nil))))))
      (pss_cons (ps_set (i := 0) sc_class_at.nd rfl (.inl rfl) (pe_callS (ok_lessened (base := base) T) (hr.mono (by decide)) (by rfl) T.g_lessened T.F_lessened.kp T.b_lessened (fun σ => L2N.passAt (L2N.takes_of rfl rfl rfl rfl) σ) (pa_cons (pv 0) (pa_cons (pv 4) pa_nil))))
      (pss_one (ps_aug (i := 1) sc_class_at.nd rfl (.inl rfl) (pe_op op_mulW (pv 4) (pv 3)) ip_sub)))))))))
      (pss_one (ps_ret (pv 2)))), ?_⟩
  generalize start N_class_at vs = σ at hE ⊢
  change wp (m_class_at rows length place) _ _ at h
  unfold m_class_at at h
  refine uSeq ?_
  refine st_while (RetP K ρ Θ (fun b => .im b) Q) (fun (s : (List Int) × Int × Int) => match s with | (rows, length, place) => [.im (rows : (List Int)), .im (length : Int), .im (place : Int), .any, .any, .any]) hE ⟨.inr rfl, .inr rfl, .inr rfl, .inl rfl, .inl rfl, .inl rfl, trivial⟩ h (fun r h => h) (fun s I H σ Qt hE h => ?_) (fun s I H σ N B hE h => ?_) (fun s I H σ hE h => ?_)
  ·
    obtain ⟨rows, length, place⟩ := s
    refine st_htm hE (ht_tt (hf_pm (fun _ => hr_gt) (hf_var rfl) (hf_ixLp rfl (hf_c (a := (0 : Int)) rfl trivial)))) h fun b2 h => ?_
    exact h _ _ hE
  ·
    obtain ⟨rows, length, place⟩ := s
    refine uSeq ?_
    refine st_setm (Γ' := fun (least : Int) => [.im (rows : (List Int)), .im (length : Int), .im (place : Int), .im (least : Int), .any, .any]) hE (hf_ixLp rfl (hf_c (a := (0 : Int)) rfl trivial)) h (fun _ => rfl) (by decide : (3 : Nat) < 6) fun least σ hE h => ?_
    refine uSeq ?_
    refine st_setm (Γ' := fun (place : Int) => [.im (rows : (List Int)), .im (length : Int), .im (place : Int), .im (least : Int), .any, .any]) hE (hf_pp hr_mod (hf_var rfl) (hf_var rfl)) h (fun _ => rfl) (by decide : (2 : Nat) < 6) fun place σ hE h => ?_
    refine uSeq (uAsg (uCallS (uCons ?_)))
    refine st_var hE (i := 0) rfl fun v hE => ?_
    refine uNil ?_
    refine st_call rows hE rfl rfl h (fun e x I' H' cls d hm z => x _ H' cls d hm z.clear) fun t3 I H v hE h => ?_
    refine st_store (Γ' := [.im (rows : (List Int)), .im (length : Int), .im (place : Int), .im (least : Int), .im (t3 : Int), .any]) hE rfl (by decide : (4 : Nat) < 6) fun σ hE => ?_
    refine uSeq ?_
    refine st_if hE (ht_tt (hf_pp hr_eqI (hf_var rfl) (hf_c (a := (0 : Int)) rfl trivial))) h (fun h => ?_) (fun h => ?_)
    ·
      exact st_ret hE (hf_var rfl) h
    ·
      refine uNext (uSeq ?_)
      refine st_ifm hE (ht_tt (hf_pm (fun _ => hr_lt) (hf_var rfl) (hf_pp hr_mul (hf_c (a := (2 : Int)) rfl trivial) (hf_var rfl)))) h (fun h => ?_) (fun h => ?_)
      ·
        refine uSeq ?_
        refine st_setm (Γ' := fun (border : Int) => [.im (rows : (List Int)), .im (length : Int), .im (place : Int), .im (least : Int), .im (t3 : Int), .im (border : Int)]) hE (hf_pp hr_sub (hf_var rfl) (hf_var rfl)) h (fun _ => rfl) (by decide : (5 : Nat) < 6) fun border σ hE h => ?_
        refine uSeq ?_
        refine st_setm (Γ' := fun (rounds : Int) => [.im (rows : (List Int)), .im (length : Int), .im (place : Int), .im (least : Int), .im (rounds : Int), .im (border : Int)]) hE (hf_c (a := (1 : Int)) rfl trivial) h (fun _ => rfl) (by decide : (4 : Nat) < 6) fun rounds σ hE h => ?_
        refine st_if hE (ht_tt (hf_pp hr_ge (hf_var rfl) (hf_var rfl))) h (fun h => ?_) (fun h => ?_)
        ·
          refine uRet (uOp (uOp (uCallS (uCons (uCallS (uCons ?_))))))
          refine st_var hE (i := 0) rfl fun v hE => ?_
          refine uCons ?_
          refine st_push hE (hf_var rfl) fun hE => ?_
          refine uNil ?_
          refine st_call (rows, rounds) hE rfl rfl h (fun e x I' H' cls d hm z => x _ H' cls d hm z.clear) fun t6 I H v hE h => ?_
          refine uCons ?_
          refine st_push hE (hf_var rfl) fun hE => ?_
          refine uNil ?_
          refine st_call (t6, border) hE rfl rfl h (fun e x I' H' cls d hm z => x _ H' cls d hm z.clear) fun t7 I H v hE h => ?_
          refine st_push hE (hf_var rfl) fun hE => ?_
          refine st_op2 hE hr_add h fun t8 v hE h => ?_
          refine st_push hE (hf_var rfl) fun hE => ?_
          refine st_op2 hE hr_sub h fun t9 v hE h => ?_
          exact h _ _ _ hE.clear
        ·
          refine uNext (uSeq (uAsg (uCallS (uCons ?_))))
          refine st_var hE (i := 0) rfl fun v hE => ?_
          refine uCons ?_
          refine st_push hE (hf_var rfl) fun hE => ?_
          refine uNil ?_
          refine st_call (rows, rounds) hE rfl rfl h (fun e x I' H' cls d hm z => x _ H' cls d hm z.clear) fun t10 I H v hE h => ?_
          refine st_store (Γ' := [.im (t10 : (List Int)), .im (length : Int), .im (place : Int), .im (least : Int), .im (rounds : Int), .im (border : Int)]) hE rfl (by decide : (0 : Nat) < 6) fun σ hE => ?_
          refine st_augm (i := 1) hE rfl (hf_pp hr_mul (hf_var rfl) (hf_var rfl)) h (by decide : (1 : Nat) < 6) fun length σ hE h => ?_
          replace hE : Env K _ _ _ [.im (t10 : (List Int)), .im (length : Int), .im (place : Int), .im (least : Int), .im (rounds : Int), .im (border : Int)] _ _ := hE
          exact h _ _ _ (hE.weak (Γ' := [.im (t10 : (List Int)), .im (length : Int), .im (place : Int), .any, .any, .any]) ⟨.inr rfl, .inr rfl, .inr rfl, .inl rfl, .inl rfl, .inl rfl, trivial⟩)
      ·
        refine st_setm (Γ' := fun (rounds : Int) => [.im (rows : (List Int)), .im (length : Int), .im (place : Int), .im (least : Int), .im (rounds : Int), .any]) hE (hf_c2m (fun _ _ => hc_min) (hf_var rfl) (hf_mp (fun _ => hr_sub) (hf_pp hr_div (hf_var rfl) (hf_var rfl)) (hf_c (a := (1 : Int)) rfl trivial))) h (fun _ => rfl) (by decide : (4 : Nat) < 6) fun rounds σ hE h => ?_
        refine uSeq (uAsg (uCallS (uCons ?_)))
        refine st_var hE (i := 0) rfl fun v hE => ?_
        refine uCons ?_
        refine st_push hE (hf_var rfl) fun hE => ?_
        refine uNil ?_
        refine st_call (rows, rounds) hE rfl rfl h (fun e x I' H' cls d hm z => x _ H' cls d hm z.clear) fun t15 I H v hE h => ?_
        refine st_store (Γ' := [.im (t15 : (List Int)), .im (length : Int), .im (place : Int), .im (least : Int), .im (rounds : Int), .any]) hE rfl (by decide : (0 : Nat) < 6) fun σ hE => ?_
        refine st_augm (i := 1) hE rfl (hf_pp hr_mul (hf_var rfl) (hf_var rfl)) h (by decide : (1 : Nat) < 6) fun length σ hE h => ?_
        replace hE : Env K _ _ _ [.im (t15 : (List Int)), .im (length : Int), .im (place : Int), .im (least : Int), .im (rounds : Int), .any] _ _ := hE
        exact h _ _ _ (hE.weak (Γ' := [.im (t15 : (List Int)), .im (length : Int), .im (place : Int), .any, .any, .any]) ⟨.inr rfl, .inr rfl, .inr rfl, .inl rfl, .inl rfl, .inl rfl, trivial⟩)
  obtain ⟨rows, length, place⟩ := s
  exact st_ret hE (hf_var rfl) h

theorem ok_class_of (T : Txt Pg w K mg) : FnOk Pg w K mg base (L2N.CX Pg w) 5 T.a_class_of T.d_class_of ["periods", "length", "place"] (SpM K mg 3 (fun (a : (SeqL Int) × Int × Int) => [.im a.1, .im a.2.1, .im a.2.2]) (fun a => m_class_of a.1 a.2.1 a.2.2) (fun b => .im b)) := by
  refine okN T.F_class_of sc_class_of (fun vs H Q E h => h.1) fun cdv A outer s H vs Q E hr h => ?_
  obtain ⟨hl, ⟨periods, length, place⟩, I, ρ, Θ, hE, h⟩ := h
  have hE : Env K I H (start N_class_of vs) [.im (periods : (SeqL Int)), .im (length : Int), .im (place : Int)] ρ Θ := st_start hE (by rw [hl]; first | rfl | done)
  refine ⟨_, (pss_cons (ps_expr (pe_callS (ok_check_periods (base := base) T) (hr.mono (by decide)) (by rfl) T.g_check_periods T.F_check_periods.kp T.b_check_periods (fun σ => L2N.passAt (L2N.takes_of rfl rfl rfl rfl) σ) (pa_cons (pv 0) pa_nil)))
      (pss_cons (ps_expr (pe_callS (ok_check_range (base := base) T) (hr.mono (by decide)) (by rfl) T.g_check_range T.F_check_range.kp T.b_check_range (fun σ => L2N.passAt (L2N.takes_of rfl rfl rfl rfl) σ) (pa_cons (pv 1) (pa_cons pe_int (pa_cons (pe_glob (v := .int 1000000000000000000) (by rfl) T.c_LONGEST ⟨_, rfl⟩) pa_nil)))))
      (pss_cons (ps_expr (pe_callS (ok_check_range (base := base) T) (hr.mono (by decide)) (by rfl) T.g_check_range T.F_check_range.kp T.b_check_range (fun σ => L2N.passAt (L2N.takes_of rfl rfl rfl rfl) σ) (pa_cons (pv 2) (pa_cons pe_int (pa_cons (pe_op op_sub (pv 1) pe_int) pa_nil)))))
      (pss_cons (ps_expr (pe_callS (ok_require_period (base := base) T) (hr.mono (by decide)) (by rfl) T.g_require_period T.F_require_period.kp T.b_require_period (fun σ => L2N.passAt (L2N.takes_of rfl rfl rfl rfl) σ) (pa_cons (pv 0) pa_nil)))
      (pss_one (ps_ret (pe_callS (ok_class_at (base := base) T) (hr.mono (by decide)) (by rfl) T.g_class_at T.F_class_at.kp T.b_class_at (fun σ => L2N.passAt (L2N.takes_of rfl rfl rfl rfl) σ) (pa_cons (pe_sortSet (by rfl) T.z_sorted (by rfl) T.z_set (pv 0)) (pa_cons (pv 1) (pa_cons (pv 2) pa_nil)))))))))), ?_⟩
  generalize start N_class_of vs = σ at hE ⊢
  change wp (m_class_of periods length place) _ _ at h
  unfold m_class_of at h
  refine uSeq (uDrop (uCallS (uCons ?_)))
  refine st_var hE (i := 0) rfl fun v hE => ?_
  refine uNil ?_
  refine st_call periods hE rfl rfl h (fun e x I' H' cls d hm z => x _ H' cls d hm z.clear) fun t1 I H v hE h => ?_
  have hE := hE.pop
  refine uSeq (uDrop (uCallS (uCons ?_)))
  refine st_push hE (hf_var rfl) fun hE => ?_
  refine uCons ?_
  refine st_push hE (hf_c (a := (0 : Int)) rfl trivial) fun hE => ?_
  refine uCons ?_
  refine st_push hE (hf_c (a := (1000000000000000000 : Int)) rfl trivial) fun hE => ?_
  refine uNil ?_
  refine st_call (length, (0 : Int), (1000000000000000000 : Int)) hE rfl rfl h (fun e x I' H' cls d hm z => x _ H' cls d hm z.clear) fun t2 I H v hE h => ?_
  have hE := hE.pop
  refine uSeq (uDrop (uCallS (uCons ?_)))
  refine st_push hE (hf_var rfl) fun hE => ?_
  refine uCons ?_
  refine st_push hE (hf_c (a := (0 : Int)) rfl trivial) fun hE => ?_
  refine uCons ?_
  refine st_push hE (hf_pp hr_sub (hf_var rfl) (hf_c (a := (1 : Int)) rfl trivial)) fun hE => ?_
  refine uNil ?_
  refine st_call (place, (0 : Int), (length - (1 : Int))) hE rfl rfl h (fun e x I' H' cls d hm z => x _ H' cls d hm z.clear) fun t3 I H v hE h => ?_
  have hE := hE.pop
  refine uSeq (uDrop (uCallS (uCons ?_)))
  refine st_var hE (i := 0) rfl fun v hE => ?_
  refine uNil ?_
  refine st_call periods hE rfl rfl h (fun e x I' H' cls d hm z => x _ H' cls d hm z.clear) fun t4 I H v hE h => ?_
  have hE := hE.pop
  refine uRet (uCallS (uCons (uSortSet ?_)))
  refine st_var hE (i := 0) rfl fun v hE => ?_
  refine st_sortUI hE h fun t5 I H v hE h => ?_
  refine uCons ?_
  refine st_push hE (hf_var rfl) fun hE => ?_
  refine uCons ?_
  refine st_push hE (hf_var rfl) fun hE => ?_
  refine uNil ?_
  refine st_call (t5, length, place) hE rfl rfl h (fun e x I' H' cls d hm z => x _ H' cls d hm z.clear) fun t6 I H v hE h => ?_
  exact h _ _ _ hE.clear

theorem ok_law_dig (T : Txt Pg w K mg) : FnOk Pg w K mg base (L2N.CX Pg w) 1 T.a_law_dig T.d_law_dig ["cells", "place", "sizes"] (SpM K mg 3 (fun (a : (List Int) × Int × (List Int)) => [.im a.1, .im a.2.1, .im a.2.2]) (fun a => m_law_dig a.1 a.2.1 a.2.2) (fun b => .own b)) := by
  refine okN T.F_law_dig sc_law_dig (fun vs H Q E h => h.1) fun cdv A outer s H vs Q E hr h => ?_
  obtain ⟨hl, ⟨cells, place, sizes⟩, I, ρ, Θ, hE, h⟩ := h
  have hE : Env K I H (start N_law_dig vs) [.im (cells : (List Int)), .im (place : Int), .im (sizes : (List Int)), .any, .any, .any, .any, .any] ρ Θ := st_start hE (by rw [hl]; first | rfl | done)
  refine ⟨_, (pss_cons (ps_set (i := 3) sc_law_dig.nd rfl (.inl rfl) pe_int)
      (pss_cons (ps_if (pt_cmpR op_lt (pv 1) (pe_callB call_len_seq (by rfl) T.z_len PySem.boot_len (pa_cons (pv 0) pa_nil)) (nomark _)) (pss_one (ps_set (i := 3) sc_law_dig.nd rfl (.inl rfl) (pe_ix ix_list (pv 0) (pv 1) (fun _ _ => rfl)))) pss_nil)
      (pss_cons (ps_set (i := 4) sc_law_dig.nd rfl (.inl rfl) (pe_callB call_abs (by rfl) T.z_abs (by decide +kernel) (pa_cons (pv 3) pa_nil)))
      (pss_cons (ps_set (i := 5) sc_law_dig.nd rfl (.inl rfl) (pe_lst pa_nil))
      (pss_cons (ps_for (passes_of rfl) rfl (pi_range1 (by rfl) T.z_range (pa_cons (pe_callB call_len_seq (by rfl) T.z_len PySem.boot_len (pa_cons (pv 2) pa_nil)) pa_nil)) (pg_name (i := 6) sc_law_dig.nd rfl (.inl rfl)) (pss_cons (ps_if (pt_cmpR op_lt (pe_callB call_abs (by rfl) T.z_abs (by decide +kernel) (pa_cons (pv 3) pa_nil)) (pe_op op_powW pe_int pe_int) (nomark _)) (pss_cons (ps_set (i := 7) sc_law_dig.nd rfl (.inl rfl) (pe_op op_mod (pe_callTy call_int1 (by rfl) T.z_int (by decide +kernel) (pa_cons (pe_op op_add (pe_op op_add (pe_op op_add (pe_op op_mulW (pv 3) pe_int) (pe_op op_mulW (pv 1) pe_int)) (pe_op op_mulW (pv 6) pe_int)) pe_int) pa_nil)) pe_int))
      (pss_one (ps_set (i := 4) sc_law_dig.nd rfl (.inl rfl) (pe_op op_fdivW (pe_op op_mod (pe_callTy call_int1 (by rfl) T.z_int (by decide +kernel) (pa_cons (pe_op op_add (pe_op op_add (pe_op op_mulW (pv 7) (pv 7)) (pe_op op_mulW (pv 6) pe_int)) (pv 1)) pa_nil)) pe_int) pe_int)))) pss_nil)
      (pss_cons (ps_expr (pe_bm PySem.F.plainAttrs_list PySem.F.slot_list_append PySem.F.type_list_append mt_append (pv 5) (pa_cons (pe_op op_mod (pe_callTy call_int1 (by rfl) T.z_int (by decide +kernel) (pa_cons (pv 4) pa_nil)) (pe_ix ix_list (pv 2) (pv 6) (fun _ _ => rfl))) pa_nil)))
      (pss_one (ps_set (i := 4) sc_law_dig.nd rfl (.inl rfl) (pe_op op_fdivW (pv 4) (pe_ix ix_list (pv 2) (pv 6) (fun _ _ => rfl))))))))
      (pss_one (ps_ret (pv 5)))))))), ?_⟩
  generalize start N_law_dig vs = σ at hE ⊢
  change wp (m_law_dig cells place sizes) _ _ at h
  unfold m_law_dig at h
  refine uSeq ?_
  refine st_setm (Γ' := fun (cell : Int) => [.im (cells : (List Int)), .im (place : Int), .im (sizes : (List Int)), .im (cell : Int), .any, .any, .any, .any]) hE (hf_c (a := (0 : Int)) rfl trivial) h (fun _ => rfl) (by decide : (3 : Nat) < 8) fun cell σ hE h => ?_
  refine uSeq ?_
  refine st_ifj (fun (cell : Int) => [.im (cells : (List Int)), .im (place : Int), .im (sizes : (List Int)), .im (cell : Int), .any, .any, .any, .any]) hE (ht_tt (hf_pp hr_lt (hf_var rfl) (hf_lenL (hΓ := rfl)))) h (fun h => ?_) (fun h => ?_) (fun s I H σ hE h => ?_)
  ·
    refine st_setm (Γ' := fun (cell : Int) => [.im (cells : (List Int)), .im (place : Int), .im (sizes : (List Int)), .im (cell : Int), .any, .any, .any, .any]) hE (hf_ixLp rfl (hf_var rfl)) h (fun _ => rfl) (by decide : (3 : Nat) < 8) fun cell σ hE h => ?_
    exact h _ _ _ (hE.weak (Γ' := [.im (cells : (List Int)), .im (place : Int), .im (sizes : (List Int)), .im (cell : Int), .any, .any, .any, .any]) ⟨.inr rfl, .inr rfl, .inr rfl, .inr rfl, .inl rfl, .inl rfl, .inl rfl, .inl rfl, trivial⟩)
  ·
    refine uNext ?_
    exact h _ _ _ (hE.weak (Γ' := [.im (cells : (List Int)), .im (place : Int), .im (sizes : (List Int)), .im (cell : Int), .any, .any, .any, .any]) ⟨.inr rfl, .inr rfl, .inr rfl, .inr rfl, .inl rfl, .inl rfl, .inl rfl, .inl rfl, trivial⟩)
  revert hE h; revert s; intro cell hE h
  refine uSeq ?_
  refine st_setm (Γ' := fun (left : Int) => [.im (cells : (List Int)), .im (place : Int), .im (sizes : (List Int)), .im (cell : Int), .im (left : Int), .any, .any, .any]) hE (hf_c1p hc_abs (hf_var rfl)) h (fun _ => rfl) (by decide : (4 : Nat) < 8) fun left σ hE h => ?_
  refine uSeq (uAsg (uLst (uNil ?_)))
  refine st_lstO (α := Int) [] [] rfl (Nat.zero_le _) hE fun H v hE => ?_
  refine st_nameO hE h fun row hE h => ?_
  refine st_store (Γ' := [.im (cells : (List Int)), .im (place : Int), .im (sizes : (List Int)), .im (cell : Int), .im (left : Int), .own (row : (List Int)), .any, .any]) hE rfl (by decide : (5 : Nat) < 8) fun σ hE => ?_
  refine uSeq (uFor ?_)
  refine it_rng1 hE (hf_lenL (hΓ := rfl)) h fun xs1 h J hJ => ?_
  refine st_forS (α := Int) hJ (fun (s : Int × (List Int)) => match s with | (left, row) => [.im (cells : (List Int)), .im (place : Int), .im (sizes : (List Int)), .im (cell : Int), .im (left : Int), .own (row : (List Int)), .any, .any]) hE ⟨.inr rfl, .inr rfl, .inr rfl, .inr rfl, .inr rfl, .inr rfl, .inl rfl, .inl rfl, trivial⟩ h (fun k_ s I H σ v N B hE h => ?_) (fun s I H σ hE h => ?_)
  ·
    obtain ⟨left, row⟩ := s
    refine st_store (Γ' := [.im (cells : (List Int)), .im (place : Int), .im (sizes : (List Int)), .im (cell : Int), .im (left : Int), .own (row : (List Int)), .im (k_ : Int), .any]) hE rfl (by decide : (6 : Nat) < 8) fun σ hE => ?_
    refine uSeq ?_
    refine st_ifj (fun (left : Int) => [.im (cells : (List Int)), .im (place : Int), .im (sizes : (List Int)), .im (cell : Int), .im (left : Int), .own (row : (List Int)), .im (k_ : Int), .any]) hE (ht_tt (hf_pp hr_lt (hf_c1p hc_abs (hf_var rfl)) (hf_is (m := (powI (10 : Int) (18 : Int))) (m' := .ok (1000000000000000000 : Int)) (hf_pp hr_pow (hf_c (a := (10 : Int)) rfl trivial) (hf_c (a := (18 : Int)) rfl trivial)) (by decide +kernel)))) h (fun h => ?_) (fun h => ?_) (fun s I H σ hE h => ?_)
    ·
      refine uSeq ?_
      refine st_setm (Γ' := fun (mixed : Int) => [.im (cells : (List Int)), .im (place : Int), .im (sizes : (List Int)), .im (cell : Int), .im (left : Int), .own (row : (List Int)), .im (k_ : Int), .im (mixed : Int)]) hE (hf_mp (fun _ => hr_mod) (hf_c1m (fun _ => hc_int) (hf_mp (fun _ => hr_add) (hf_mm (fun _ _ => hr_add) (hf_mm (fun _ _ => hr_add) (hf_pp hr_mul (hf_var rfl) (hf_c (a := (48271 : Int)) rfl trivial)) (hf_pp hr_mul (hf_var rfl) (hf_c (a := (8191 : Int)) rfl trivial))) (hf_pp hr_mul (hf_var rfl) (hf_c (a := (69621 : Int)) rfl trivial))) (hf_c (a := (40692 : Int)) rfl trivial))) (hf_c (a := (2147483647 : Int)) rfl trivial)) h (fun _ => rfl) (by decide : (7 : Nat) < 8) fun mixed σ hE h => ?_
      refine st_setm (Γ' := fun (left : Int) => [.im (cells : (List Int)), .im (place : Int), .im (sizes : (List Int)), .im (cell : Int), .im (left : Int), .own (row : (List Int)), .im (k_ : Int), .im (mixed : Int)]) hE (hf_mp (fun _ => hr_div) (hf_mp (fun _ => hr_mod) (hf_c1m (fun _ => hc_int) (hf_mp (fun _ => hr_add) (hf_mm (fun _ _ => hr_add) (hf_pp hr_mul (hf_var rfl) (hf_var rfl)) (hf_pp hr_mul (hf_var rfl) (hf_c (a := (16807 : Int)) rfl trivial))) (hf_var rfl))) (hf_c (a := (998244353 : Int)) rfl trivial)) (hf_c (a := (8 : Int)) rfl trivial)) h (fun _ => rfl) (by decide : (4 : Nat) < 8) fun left σ hE h => ?_
      exact h _ _ _ (hE.weak (Γ' := [.im (cells : (List Int)), .im (place : Int), .im (sizes : (List Int)), .im (cell : Int), .im (left : Int), .own (row : (List Int)), .im (k_ : Int), .any]) ⟨.inr rfl, .inr rfl, .inr rfl, .inr rfl, .inr rfl, .inr rfl, .inr rfl, .inl rfl, trivial⟩)
    ·
      refine uNext ?_
      exact h _ _ _ (hE.weak (Γ' := [.im (cells : (List Int)), .im (place : Int), .im (sizes : (List Int)), .im (cell : Int), .im (left : Int), .own (row : (List Int)), .im (k_ : Int), .any]) ⟨.inr rfl, .inr rfl, .inr rfl, .inr rfl, .inr rfl, .inr rfl, .inr rfl, .inl rfl, trivial⟩)
    revert hE h; revert s; intro left hE h
    refine uSeq (uDrop ?_)
    refine st_bmO (i := 5) hE rfl fun l14 hl_l14 => ?_
    refine uCons ?_
    refine st_pushm hE (hf_pm (fun _ => hr_mod) (hf_c1p hc_int (hf_var rfl)) (hf_ixLp rfl (hf_var rfl))) h fun t17 hE h => ?_
    refine uNil ?_
    refine st_app (i := 5) hE hl_l14 rfl h fun row H hE h => ?_
    replace hE : Env K _ _ _ [.im (cells : (List Int)), .im (place : Int), .im (sizes : (List Int)), .im (cell : Int), .im (left : Int), .own (row : (List Int)), .im (k_ : Int), .any] _ _ := hE
    refine st_setm (Γ' := fun (left : Int) => [.im (cells : (List Int)), .im (place : Int), .im (sizes : (List Int)), .im (cell : Int), .im (left : Int), .own (row : (List Int)), .im (k_ : Int), .any]) hE (hf_pm (fun _ => hr_div) (hf_var rfl) (hf_ixLp rfl (hf_var rfl))) h (fun _ => rfl) (by decide : (4 : Nat) < 8) fun left σ hE h => ?_
    exact h _ _ _ (hE.weak (Γ' := [.im (cells : (List Int)), .im (place : Int), .im (sizes : (List Int)), .im (cell : Int), .im (left : Int), .own (row : (List Int)), .any, .any]) ⟨.inr rfl, .inr rfl, .inr rfl, .inr rfl, .inr rfl, .inr rfl, .inl rfl, .inl rfl, trivial⟩)
  obtain ⟨left, row⟩ := s
  exact st_retO (i := 5) hE rfl h

theorem ok_law_number (T : Txt Pg w K mg) : FnOk Pg w K mg base (L2N.CX Pg w) 1 T.a_law_number T.d_law_number ["told", "due"] (SpM K mg 2 (fun (a : Int × Int) => [.im a.1, .im a.2]) (fun a => m_law_number a.1 a.2) (fun b => .im b)) := by
  refine okN T.F_law_number sc_law_number (fun vs H Q E h => h.1) fun cdv A outer s H vs Q E hr h => ?_
  obtain ⟨hl, ⟨told, due⟩, I, ρ, Θ, hE, h⟩ := h
  have hE : Env K I H (start N_law_number vs) [.im (told : Int), .im (due : Int)] ρ Θ := st_start hE (by rw [hl]; first | rfl | done)
  refine ⟨_, (pss_one (ps_ret (pe_and (pe_callB call_isi (by rfl) T.z_isinstance (by decide +kernel) (pa_cons (pv 0) (pa_cons (pe_bltn (v := .ty "int") (by rfl) T.z_int (by decide +kernel) rfl) pa_nil))) (pe_and (pe_not (pe_callB call_isi (by rfl) T.z_isinstance (by decide +kernel) (pa_cons (pv 0) (pa_cons (pe_bltn (v := .ty "bool") (by rfl) T.z_bool (by decide +kernel) rfl) pa_nil)))) (pe_one (pe_cmpR op_eq (pv 0) (pv 1) (nomark _))))))), ?_⟩
  generalize start N_law_number vs = σ at hE ⊢
  change wp (m_law_number told due) _ _ at h
  unfold m_law_number at h
  exact st_ret hE (hf_and_pp (hf_isI rfl (fun _ => rfl)) (hf_and_pp (hf_not_p (hf_isI rfl (fun _ => rfl))) (hf_pp hr_eqI (hf_var rfl) (hf_var rfl)))) h

theorem ok_law_closing (T : Txt Pg w K mg) : FnOk Pg w K mg base (L2N.CX Pg w) 1 T.a_law_closing T.d_law_closing ["periods", "n"] (SpM K mg 2 (fun (a : (List Int) × Int) => [.im a.1, .im a.2]) (fun a => m_law_closing a.1 a.2) (fun b => .im b)) := by
  refine okN T.F_law_closing sc_law_closing (fun vs H Q E h => h.1) fun cdv A outer s H vs Q E hr h => ?_
  obtain ⟨hl, ⟨periods, n⟩, I, ρ, Θ, hE, h⟩ := h
  have hE : Env K I H (start N_law_closing vs) [.im (periods : (List Int)), .im (n : Int), .any, .any, .any, .any, .any, .any] ρ Θ := st_start hE (by rw [hl]; first | rfl | done)
  refine ⟨_, (pss_cons (ps_set (i := 2) sc_law_closing.nd rfl (.inl rfl) (pe_listRg rfl (by rfl) T.z_list (prg_1 (by rfl) T.z_range (pv 1))))
      (pss_cons (ps_for (passes_of rfl) rfl (pi_list (pv 0)) (pg_name (i := 3) sc_law_closing.nd rfl (.inl rfl)) (pss_one (ps_for (passes_of rfl) rfl (pi_range1 (by rfl) T.z_range (pa_cons (pe_op op_sub (pv 1) (pv 3)) pa_nil)) (pg_name (i := 4) sc_law_closing.nd rfl (.inl rfl)) (pss_one (ps_if (pt_cmpR op_ne (pe_ix ix_list (pv 2) (pv 4) (fun _ _ => rfl)) (pe_ix ix_list (pv 2) (pe_op op_add (pv 4) (pv 3)) (fun _ _ => rfl)) (nomark _)) (pss_cons (ps_set (i := 5) sc_law_closing.nd rfl (.inr rfl) (pe_callB (call_min2 rfl) (by rfl) T.z_min (by decide +kernel) (pa_cons (pe_ix ix_list (pv 2) (pv 4) (fun _ _ => rfl)) (pa_cons (pe_ix ix_list (pv 2) (pe_op op_add (pv 4) (pv 3)) (fun _ _ => rfl)) pa_nil))))
      (pss_cons (ps_set (i := 6) sc_law_closing.nd rfl (.inr rfl) (pe_callB (call_max2 rfl) (by rfl) T.z_max (by decide +kernel) (pa_cons (pe_ix ix_list (pv 2) (pv 4) (fun _ _ => rfl)) (pa_cons (pe_ix ix_list (pv 2) (pe_op op_add (pv 4) (pv 3)) (fun _ _ => rfl)) pa_nil))))
      (pss_one (ps_setLc (i := 2) (own := [("mark", 7)]) (g := gName 7) (by rfl) sc_law_closing.nd rfl rfl (sw_true rfl rfl rfl (by decide +kernel)) (pi_list (pv 2)) (blkOk_by (N := N_law_closing) (sc := defScope s_law_closing) (by decide +kernel)) (fun _ _ _ _ _ => pg_name (i := 7) sc_law_closing.nd rfl (.inl rfl)) (fun _ _ _ _ _ => pts_nil) (fun _ _ _ _ _ => (pe_ifExp (pt_cmpR op_eq (pv 7) (pv 6) (nomark _)) (pv 5) (pv 7))))))) pss_nil)))))
      (pss_one (ps_ret (pv 2))))), ?_⟩
  generalize start N_law_closing vs = σ at hE ⊢
  change wp (m_law_closing periods n) _ _ at h
  unfold m_law_closing at h
  refine uSeq (uAsg ?_)
  refine st_lstRgI hE (hf_var rfl) h fun t2 I H v hE h => ?_
  refine st_store (Γ' := [.im (periods : (List Int)), .im (n : Int), .im (t2 : (List Int)), .any, .any, .any, .any, .any]) hE rfl (by decide : (2 : Nat) < 8) fun σ hE => ?_
  refine uSeq (uFor (uList ?_))
  refine st_var hE (i := 0) rfl fun v hE => ?_
  refine it_list hE fun ja hJ => ?_
  refine st_forS (α := Int) hJ (fun (marks : (List Int)) => [.im (periods : (List Int)), .im (n : Int), .im (marks : (List Int)), .any, .any, .any, .any, .any]) hE ⟨.inr rfl, .inr rfl, .inr rfl, .inl rfl, .inl rfl, .inl rfl, .inl rfl, .inl rfl, trivial⟩ h (fun p s I H σ v N B hE h => ?_) (fun s I H σ hE h => ?_)
  ·
    revert hE h; revert s; intro marks hE h
    refine st_store (Γ' := [.im (periods : (List Int)), .im (n : Int), .im (marks : (List Int)), .im (p : Int), .any, .any, .any, .any]) hE rfl (by decide : (3 : Nat) < 8) fun σ hE => ?_
    refine uFor ?_
    refine it_rng1 hE (hf_pp hr_sub (hf_var rfl) (hf_var rfl)) h fun xs3 h J hJ => ?_
    refine st_forS (α := Int) hJ (fun (marks : (List Int)) => [.im (periods : (List Int)), .im (n : Int), .im (marks : (List Int)), .im (p : Int), .any, .any, .any, .any]) hE ⟨.inr rfl, .inr rfl, .inr rfl, .inr rfl, .inl rfl, .inl rfl, .inl rfl, .inl rfl, trivial⟩ h (fun t s I H σ v N B hE h => ?_) (fun s I H σ hE h => ?_)
    ·
      revert hE h; revert s; intro marks hE h
      refine st_store (Γ' := [.im (periods : (List Int)), .im (n : Int), .im (marks : (List Int)), .im (p : Int), .im (t : Int), .any, .any, .any]) hE rfl (by decide : (4 : Nat) < 8) fun σ hE => ?_
      refine st_ifjm (fun (marks : (List Int)) => [.im (periods : (List Int)), .im (n : Int), .im (marks : (List Int)), .im (p : Int), .im (t : Int), .any, .any, .any]) hE (ht_tt (hf_mm (fun _ _ => hr_neI) (hf_ixLp rfl (hf_var rfl)) (hf_ixLp rfl (hf_pp hr_add (hf_var rfl) (hf_var rfl))))) h (fun h => ?_) (fun h => ?_) (fun s I H σ hE h => ?_)
      ·
        refine uSeq ?_
        refine st_setm (Γ' := fun (low : Int) => [.im (periods : (List Int)), .im (n : Int), .im (marks : (List Int)), .im (p : Int), .im (t : Int), .im (low : Int), .any, .any]) hE (hf_c2m (fun _ _ => hc_min) (hf_ixLp rfl (hf_var rfl)) (hf_ixLp rfl (hf_pp hr_add (hf_var rfl) (hf_var rfl)))) h (fun _ => rfl) (by decide : (5 : Nat) < 8) fun low σ hE h => ?_
        refine uSeq ?_
        refine st_setm (Γ' := fun (high : Int) => [.im (periods : (List Int)), .im (n : Int), .im (marks : (List Int)), .im (p : Int), .im (t : Int), .im (low : Int), .im (high : Int), .any]) hE (hf_c2m (fun _ _ => hc_max) (hf_ixLp rfl (hf_var rfl)) (hf_ixLp rfl (hf_pp hr_add (hf_var rfl) (hf_var rfl)))) h (fun _ => rfl) (by decide : (6 : Nat) < 8) fun high σ hE h => ?_
        refine uAsg (uLc (uList ?_))
        refine st_var hE (i := 2) rfl fun v hE => ?_
        refine it_list hE fun ja hJ => ?_
        refine st_lcm (α := Int) (β := Int) (i := 7) hJ hE rfl h (fun ys10 I H v hE h => ?_) (fun mark I H σ ρ' Θ' Qe hE h => ?_)
        rotate_left 1
        ·
          refine st_push hE (hf_if_p (ht_tt (hf_pp hr_eqI (hf_var rfl) (hf_var rfl))) (hf_var rfl) (hf_var rfl)) fun hE => ?_
          exact h _ _ _ hE
        refine st_freezeT hE fun I hE => ?_
        refine st_store (Γ' := [.im (periods : (List Int)), .im (n : Int), .im (ys10 : (List Int)), .im (p : Int), .im (t : Int), .im (low : Int), .im (high : Int), .any]) hE rfl (by decide : (2 : Nat) < 8) fun σ hE => ?_
        exact h _ _ _ (hE.weak (Γ' := [.im (periods : (List Int)), .im (n : Int), .im (ys10 : (List Int)), .im (p : Int), .im (t : Int), .any, .any, .any]) ⟨.inr rfl, .inr rfl, .inr rfl, .inr rfl, .inr rfl, .inl rfl, .inl rfl, .inl rfl, trivial⟩)
      ·
        refine uNext ?_
        exact h _ _ _ (hE.weak (Γ' := [.im (periods : (List Int)), .im (n : Int), .im (marks : (List Int)), .im (p : Int), .im (t : Int), .any, .any, .any]) ⟨.inr rfl, .inr rfl, .inr rfl, .inr rfl, .inr rfl, .inl rfl, .inl rfl, .inl rfl, trivial⟩)
      revert hE h; revert s; intro marks hE h
      exact h _ _ _ (hE.weak (Γ' := [.im (periods : (List Int)), .im (n : Int), .im (marks : (List Int)), .im (p : Int), .any, .any, .any, .any]) ⟨.inr rfl, .inr rfl, .inr rfl, .inr rfl, .inl rfl, .inl rfl, .inl rfl, .inl rfl, trivial⟩)
    revert hE h; revert s; intro marks hE h
    exact h _ _ _ (hE.weak (Γ' := [.im (periods : (List Int)), .im (n : Int), .im (marks : (List Int)), .any, .any, .any, .any, .any]) ⟨.inr rfl, .inr rfl, .inr rfl, .inl rfl, .inl rfl, .inl rfl, .inl rfl, .inl rfl, trivial⟩)
  revert hE h; revert s; intro marks hE h
  refine uRet ?_
  refine st_var hE (i := 2) rfl fun v hE => ?_
  exact h _ _ _ hE.clear

theorem ok_law_firsts (T : Txt Pg w K mg) : FnOk Pg w K mg base (L2N.CX Pg w) 1 T.a_law_firsts T.d_law_firsts ["marks"] (SpM K mg 1 (fun (a : (List Int)) => [.im a]) (fun a => m_law_firsts a) (fun b => .im b)) := by
  refine okN T.F_law_firsts sc_law_firsts (fun vs H Q E h => h.1) fun cdv A outer s H vs Q E hr h => ?_
  obtain ⟨hl, marks, I, ρ, Θ, hE, h⟩ := h
  have hE : Env K I H (start N_law_firsts vs) [.im (marks : (List Int)), .any] ρ Θ := st_start hE (by rw [hl]; first | rfl | done)
  refine ⟨_, (pss_one (ps_ret (pe_lc (own := [("t", 1)]) (g := gName 1) (by rfl) sc_law_firsts.nd (pi_range1 (by rfl) T.z_range (pa_cons (pe_callB call_len_seq (by rfl) T.z_len PySem.boot_len (pa_cons (pv 0) pa_nil)) pa_nil)) (blkOk_by (N := N_law_firsts) (sc := defScope s_law_firsts) (by decide +kernel)) (fun _ _ _ _ _ => pg_name (i := 1) sc_law_firsts.nd rfl (.inl rfl)) (fun _ _ _ _ _ => pts_one (pt_cmpR op_eq (pe_ix (r := rIxL K) ix_list (pv 0) (pv 1) (fun _ _ => rfl)) (pv 1) (nomark _))) (fun _ _ _ _ _ => (pv 1))))), ?_⟩
  generalize start N_law_firsts vs = σ at hE ⊢
  change wp (m_law_firsts marks) _ _ at h
  unfold m_law_firsts at h
  refine uRet (uLc ?_)
  refine it_rng1 hE (hf_lenL (hΓ := rfl)) h fun xs1 h J hJ => ?_
  refine st_lcf (α := Int) (β := Int) (i := 1) hJ hE rfl h (fun ys4 I H v hE h => ?_) (fun t I H σ ρ' Θ' Qt hE h => ?_) (fun t I H σ ρ' Θ' Qe hE h => ?_)
  rotate_left 1
  ·
    refine st_htm hE (ht_tt (hf_mp (fun _ => hr_eqI) (hf_ixLp rfl (hf_var rfl)) (hf_var rfl))) h fun b3 h => ?_
    exact h _ _ hE
  ·
    refine st_push hE (hf_var rfl) fun hE => ?_
    exact h _ _ _ hE
  refine st_freezeT hE fun I hE => ?_
  exact h _ _ _ hE.clear

theorem ok_law_below (T : Txt Pg w K mg) : FnOk Pg w K mg base (L2N.CX Pg w) 1 T.a_law_below T.d_law_below ["firsts", "first"] (SpM K mg 2 (fun (a : (List Int) × Int) => [.im a.1, .im a.2]) (fun a => m_law_below a.1 a.2) (fun b => .im b)) := by
  refine okN T.F_law_below sc_law_below (fun vs H Q E h => h.1) fun cdv A outer s H vs Q E hr h => ?_
  obtain ⟨hl, ⟨firsts, first⟩, I, ρ, Θ, hE, h⟩ := h
  have hE : Env K I H (start N_law_below vs) [.im (firsts : (List Int)), .im (first : Int), .any] ρ Θ := st_start hE (by rw [hl]; first | rfl | done)
  refine ⟨_, (pss_one (ps_ret (pe_callB call_len_seq (by rfl) T.z_len PySem.boot_len (pa_cons (pe_lc (own := [("t", 2)]) (g := gName 2) (by rfl) sc_law_below.nd (pi_list (pv 0)) (blkOk_by (N := N_law_below) (sc := defScope s_law_below) (by decide +kernel)) (fun _ _ _ _ _ => pg_name (i := 2) sc_law_below.nd rfl (.inl rfl)) (fun _ _ _ _ _ => pts_one (pt_cmpR op_lt (pv 2) (pv 1) (nomark _))) (fun _ _ _ _ _ => (pv 2))) pa_nil)))), ?_⟩
  generalize start N_law_below vs = σ at hE ⊢
  change wp (m_law_below firsts first) _ _ at h
  unfold m_law_below at h
  refine uRet (uCB (uCons (uLc (uList ?_))))
  refine st_var hE (i := 0) rfl fun v hE => ?_
  refine it_list hE fun ja hJ => ?_
  refine st_lcf (α := Int) (β := Int) (i := 2) hJ hE rfl h (fun ys1 I H v hE h => ?_) (fun t I H σ ρ' Θ' Qt hE h => ?_) (fun t I H σ ρ' Θ' Qe hE h => ?_)
  rotate_left 1
  ·
    refine st_htp hE (ht_tt (hf_pp hr_lt (hf_var rfl) (hf_var rfl))) ?_
    exact h _ _ hE
  ·
    refine st_push hE (hf_var rfl) fun hE => ?_
    exact h _ _ _ hE
  refine st_freezeT hE fun I hE => ?_
  refine uNil ?_
  refine st_lenL hE fun v hE => ?_
  exact h _ _ _ hE.clear

theorem ok_law_table (T : Txt Pg w K mg) : FnOk Pg w K mg base (L2N.CX Pg w) 2 T.a_law_table T.d_law_table ["periods", "n", "m", "more"] (SpM K mg 4 (fun (a : (List Int) × Int × Int × Int) => [.im a.1, .im a.2.1, .im a.2.2.1, .im a.2.2.2]) (fun a => m_law_table a.1 a.2.1 a.2.2.1 a.2.2.2) (fun b => .im b)) := by
  refine okN T.F_law_table sc_law_table (fun vs H Q E h => h.1) fun cdv A outer s H vs Q E hr h => ?_
  obtain ⟨hl, ⟨periods, n, m, more⟩, I, ρ, Θ, hE, h⟩ := h
  have hE : Env K I H (start N_law_table vs) [.im (periods : (List Int)), .im (n : Int), .im (m : Int), .im (more : Int)] ρ Θ := st_start hE (by rw [hl]; first | rfl | done)
  refine ⟨_, (pss_one (ps_ret (pe_lst (pa_cons (pv 2) (pa_cons (pv 3) (pa_cons (pe_callS (ok_law_closing (base := base) T) (hr.mono (by decide)) (by rfl) T.g_law_closing T.F_law_closing.kp T.b_law_closing (fun σ => L2N.passAt (L2N.takes_of rfl rfl rfl rfl) σ) (pa_cons (pv 0) (pa_cons (pv 1) pa_nil))) (pa_cons (pe_callS (ok_law_closing (base := base) T) (hr.mono (by decide)) (by rfl) T.g_law_closing T.F_law_closing.kp T.b_law_closing (fun σ => L2N.passAt (L2N.takes_of rfl rfl rfl rfl) σ) (pa_cons (pv 0) (pa_cons (pe_op op_add (pv 1) pe_int) pa_nil))) pa_nil))))))), ?_⟩
  generalize start N_law_table vs = σ at hE ⊢
  change wp (m_law_table periods n m more) _ _ at h
  unfold m_law_table at h
  refine uRet (uLst (uCons ?_))
  refine st_push hE (hf_var rfl) fun hE => ?_
  refine uCons ?_
  refine st_push hE (hf_var rfl) fun hE => ?_
  refine uCons (uCallS (uCons ?_))
  refine st_var hE (i := 0) rfl fun v hE => ?_
  refine uCons ?_
  refine st_push hE (hf_var rfl) fun hE => ?_
  refine uNil ?_
  refine st_call (periods, n) hE rfl rfl h (fun e x I' H' cls d hm z => x _ H' cls d hm z.clear.nip.nip) fun t1 I H v hE h => ?_
  refine uCons (uCallS (uCons ?_))
  refine st_var hE (i := 0) rfl fun v hE => ?_
  refine uCons ?_
  refine st_push hE (hf_pp hr_add (hf_var rfl) (hf_c (a := (1 : Int)) rfl trivial)) fun hE => ?_
  refine uNil ?_
  refine st_call (periods, (n + (1 : Int))) hE rfl rfl h (fun e x I' H' cls d hm z => x _ H' cls d hm z.clear.nip.nip.nip) fun t2 I H v hE h => ?_
  refine uNil ?_
  refine st_mk4 hE fun I H v hE => ?_
  exact h _ _ _ hE.clear

theorem ok_law_total (T : Txt Pg w K mg) : FnOk Pg w K mg base (L2N.CX Pg w) 2 T.a_law_total T.d_law_total ["tab"] (SpM K mg 1 (fun (a : (ML4 Int Int (List Int) (List Int))) => [.im a]) (fun a => m_law_total a) (fun b => .im b)) := by
  refine okN T.F_law_total sc_law_total (fun vs H Q E h => h.1) fun cdv A outer s H vs Q E hr h => ?_
  obtain ⟨hl, tab, I, ρ, Θ, hE, h⟩ := h
  have hE : Env K I H (start N_law_total vs) [.im (tab : (ML4 Int Int (List Int) (List Int))), .any] ρ Θ := st_start hE (by rw [hl]; first | rfl | done)
  refine ⟨_, (pss_cons (ps_set (i := 1) sc_law_total.nd rfl (.inl rfl) (pe_callB call_len_seq (by rfl) T.z_len PySem.boot_len (pa_cons (pe_callS (ok_law_firsts (base := base) T) (hr.mono (by decide)) (by rfl) T.g_law_firsts T.F_law_firsts.kp T.b_law_firsts (fun σ => L2N.passAt (L2N.takes_of rfl rfl rfl rfl) σ) (pa_cons (pe_ix ix_list (pv 0) pe_int (fun _ _ => rfl)) pa_nil)) pa_nil)))
      (pss_one (ps_ret (pe_op op_add (pe_op op_mulW (pe_ix ix_list (pv 0) pe_int (fun _ _ => rfl)) (pv 1)) (pe_op op_mulW (pe_ix ix_list (pv 0) pe_int (fun _ _ => rfl)) (pe_op op_sub (pe_callB call_len_seq (by rfl) T.z_len PySem.boot_len (pa_cons (pe_callS (ok_law_firsts (base := base) T) (hr.mono (by decide)) (by rfl) T.g_law_firsts T.F_law_firsts.kp T.b_law_firsts (fun σ => L2N.passAt (L2N.takes_of rfl rfl rfl rfl) σ) (pa_cons (pe_ix ix_list (pv 0) pe_int (fun _ _ => rfl)) pa_nil)) pa_nil)) (pv 1))))))), ?_⟩
  generalize start N_law_total vs = σ at hE ⊢
  change wp (m_law_total tab) _ _ at h
  unfold m_law_total at h
  refine uSeq (uAsg (uCB (uCons (uCallS (uCons ?_)))))
  refine st_ixM4_2 (j := 0) hE rfl fun v hE => ?_
  refine uNil ?_
  refine st_call tab.c hE rfl rfl h (fun e x I' H' cls d hm z => x _ H' cls d hm z.clear) fun t1 I H v hE h => ?_
  refine uNil ?_
  refine st_lenL hE fun v hE => ?_
  refine st_name hE h fun less hE h => ?_
  refine st_store (Γ' := [.im (tab : (ML4 Int Int (List Int) (List Int))), .im (less : Int)]) hE rfl (by decide : (1 : Nat) < 2) fun σ hE => ?_
  refine uRet (uOp ?_)
  refine st_pushm hE (hf_pp hr_mul (hf_ixM4_0 (hΓ := rfl)) (hf_var rfl)) h fun t2 hE h => ?_
  refine uOp ?_
  refine st_push hE (hf_ixM4_1 (hΓ := rfl)) fun hE => ?_
  refine uOp (uCB (uCons (uCallS (uCons ?_))))
  refine st_ixM4_3 (j := 0) hE rfl fun v hE => ?_
  refine uNil ?_
  refine st_call tab.d hE rfl rfl h (fun e x I' H' cls d hm z => x _ H' cls d hm z.clear.nip.nip) fun t3 I H v hE h => ?_
  refine uNil ?_
  refine st_lenL hE fun v hE => ?_
  refine st_push hE (hf_var rfl) fun hE => ?_
  refine st_op2 hE hr_sub h fun t4 v hE h => ?_
  refine st_op2 hE hr_mul h fun t5 v hE h => ?_
  refine st_op2 hE hr_add h fun t6 v hE h => ?_
  exact h _ _ _ hE.clear

theorem ok_law_code (T : Txt Pg w K mg) : FnOk Pg w K mg base (L2N.CX Pg w) 2 T.a_law_code T.d_law_code ["tab", "place"] (SpM K mg 2 (fun (a : (ML4 Int Int (List Int) (List Int)) × Int) => [.im a.1, .im a.2]) (fun a => m_law_code a.1 a.2) (fun b => .im b)) := by
  refine okN T.F_law_code sc_law_code (fun vs H Q E h => h.1) fun cdv A outer s H vs Q E hr h => ?_
  obtain ⟨hl, ⟨tab, place⟩, I, ρ, Θ, hE, h⟩ := h
  have hE : Env K I H (start N_law_code vs) [.im (tab : (ML4 Int Int (List Int) (List Int))), .im (place : Int), .any, .any, .any, .any, .any, .any, .any, .any] ρ Θ := st_start hE (by rw [hl]; first | rfl | done)
  refine ⟨_, (pss_cons (ps_set (i := 2) sc_law_code.nd rfl (.inl rfl) (pe_ix ix_list (pv 0) pe_int (fun _ _ => rfl)))
      (pss_cons (ps_set (i := 3) sc_law_code.nd rfl (.inl rfl) (pe_ix ix_list (pv 0) pe_int (fun _ _ => rfl)))
      (pss_cons (ps_set (i := 4) sc_law_code.nd rfl (.inl rfl) (pe_op op_mod (pe_callTy call_int1 (by rfl) T.z_int (by decide +kernel) (pa_cons (pv 1) pa_nil)) (pv 2)))
      (pss_cons (ps_set (i := 5) sc_law_code.nd rfl (.inl rfl) (pe_ix ix_list (pv 0) pe_int (fun _ _ => rfl)))
      (pss_cons (ps_if (pt_cmpR op_lt (pv 4) (pv 3) (nomark _)) (pss_one (ps_set (i := 5) sc_law_code.nd rfl (.inl rfl) (pe_ix ix_list (pv 0) pe_int (fun _ _ => rfl)))) pss_nil)
      (pss_cons (ps_set (i := 6) sc_law_code.nd rfl (.inl rfl) (pe_ix ix_list (pv 5) (pe_op op_fdivW (pv 1) (pv 2)) (fun _ _ => rfl)))
      (pss_cons (ps_set (i := 7) sc_law_code.nd rfl (.inl rfl) (pe_callS (ok_law_firsts (base := base) T) (hr.mono (by decide)) (by rfl) T.g_law_firsts T.F_law_firsts.kp T.b_law_firsts (fun σ => L2N.passAt (L2N.takes_of rfl rfl rfl rfl) σ) (pa_cons (pe_ix ix_list (pv 0) pe_int (fun _ _ => rfl)) pa_nil)))
      (pss_cons (ps_set (i := 8) sc_law_code.nd rfl (.inl rfl) (pe_callS (ok_law_firsts (base := base) T) (hr.mono (by decide)) (by rfl) T.g_law_firsts T.F_law_firsts.kp T.b_law_firsts (fun σ => L2N.passAt (L2N.takes_of rfl rfl rfl rfl) σ) (pa_cons (pe_ix ix_list (pv 0) pe_int (fun _ _ => rfl)) pa_nil)))
      (pss_cons (ps_set (i := 9) sc_law_code.nd rfl (.inl rfl) (pe_op op_mulW (pe_op op_sub (pv 2) (pv 3)) (pe_callS (ok_law_below (base := base) T) (hr.mono (by decide)) (by rfl) T.g_law_below T.F_law_below.kp T.b_law_below (fun σ => L2N.passAt (L2N.takes_of rfl rfl rfl rfl) σ) (pa_cons (pv 7) (pa_cons (pv 6) pa_nil)))))
      (pss_cons (ps_set (i := 9) sc_law_code.nd rfl (.inl rfl) (pe_op op_add (pv 9) (pe_op op_mulW (pv 3) (pe_callS (ok_law_below (base := base) T) (hr.mono (by decide)) (by rfl) T.g_law_below T.F_law_below.kp T.b_law_below (fun σ => L2N.passAt (L2N.takes_of rfl rfl rfl rfl) σ) (pa_cons (pv 8) (pa_cons (pv 6) pa_nil))))))
      (pss_cons (ps_if (pt_cmpR op_in_seq (pv 6) (pv 8) (by with_unfolding_all rfl)) (pss_one (ps_set (i := 9) sc_law_code.nd rfl (.inl rfl) (pe_op op_add (pv 9) (pe_callB (call_min2 rfl) (by rfl) T.z_min (by decide +kernel) (pa_cons (pv 4) (pa_cons (pv 3) pa_nil)))))) pss_nil)
      (pss_cons (ps_if (pt_cmpR op_in_seq (pv 6) (pv 7) (by with_unfolding_all rfl)) (pss_one (ps_set (i := 9) sc_law_code.nd rfl (.inl rfl) (pe_op op_add (pv 9) (pe_callB (call_max2 rfl) (by rfl) T.z_max (by decide +kernel) (pa_cons pe_int (pa_cons (pe_op op_sub (pv 4) (pv 3)) pa_nil)))))) pss_nil)
      (pss_one (ps_ret (pv 9))))))))))))))), ?_⟩
  generalize start N_law_code vs = σ at hE ⊢
  change wp (m_law_code tab place) _ _ at h
  unfold m_law_code at h
  refine uSeq ?_
  refine st_setm (Γ' := fun (m : Int) => [.im (tab : (ML4 Int Int (List Int) (List Int))), .im (place : Int), .im (m : Int), .any, .any, .any, .any, .any, .any, .any]) hE (hf_ixM4_0 (hΓ := rfl)) h (fun _ => rfl) (by decide : (2 : Nat) < 10) fun m σ hE h => ?_
  refine uSeq ?_
  refine st_setm (Γ' := fun (more : Int) => [.im (tab : (ML4 Int Int (List Int) (List Int))), .im (place : Int), .im (m : Int), .im (more : Int), .any, .any, .any, .any, .any, .any]) hE (hf_ixM4_1 (hΓ := rfl)) h (fun _ => rfl) (by decide : (3 : Nat) < 10) fun more σ hE h => ?_
  refine uSeq ?_
  refine st_setm (Γ' := fun (turn : Int) => [.im (tab : (ML4 Int Int (List Int) (List Int))), .im (place : Int), .im (m : Int), .im (more : Int), .im (turn : Int), .any, .any, .any, .any, .any]) hE (hf_pp hr_mod (hf_c1p hc_int (hf_var rfl)) (hf_var rfl)) h (fun _ => rfl) (by decide : (4 : Nat) < 10) fun turn σ hE h => ?_
  refine uSeq (uAsg ?_)
  refine st_ixM4_2 (j := 0) hE rfl fun v hE => ?_
  refine st_store (Γ' := [.im (tab : (ML4 Int Int (List Int) (List Int))), .im (place : Int), .im (m : Int), .im (more : Int), .im (turn : Int), .im (tab.c : (List Int)), .any, .any, .any, .any]) hE rfl (by decide : (5 : Nat) < 10) fun σ hE => ?_
  refine uSeq ?_
  refine st_ifj (fun (marks : (List Int)) => [.im (tab : (ML4 Int Int (List Int) (List Int))), .im (place : Int), .im (m : Int), .im (more : Int), .im (turn : Int), .im (marks : (List Int)), .any, .any, .any, .any]) hE (ht_tt (hf_pp hr_lt (hf_var rfl) (hf_var rfl))) h (fun h => ?_) (fun h => ?_) (fun s I H σ hE h => ?_)
  ·
    refine uAsg ?_
    refine st_ixM4_3 (j := 0) hE rfl fun v hE => ?_
    refine st_store (Γ' := [.im (tab : (ML4 Int Int (List Int) (List Int))), .im (place : Int), .im (m : Int), .im (more : Int), .im (turn : Int), .im (tab.d : (List Int)), .any, .any, .any, .any]) hE rfl (by decide : (5 : Nat) < 10) fun σ hE => ?_
    exact h _ _ _ (hE.weak (Γ' := [.im (tab : (ML4 Int Int (List Int) (List Int))), .im (place : Int), .im (m : Int), .im (more : Int), .im (turn : Int), .im (tab.d : (List Int)), .any, .any, .any, .any]) ⟨.inr rfl, .inr rfl, .inr rfl, .inr rfl, .inr rfl, .inr rfl, .inl rfl, .inl rfl, .inl rfl, .inl rfl, trivial⟩)
  ·
    refine uNext ?_
    exact h _ _ _ (hE.weak (Γ' := [.im (tab : (ML4 Int Int (List Int) (List Int))), .im (place : Int), .im (m : Int), .im (more : Int), .im (turn : Int), .im (tab.c : (List Int)), .any, .any, .any, .any]) ⟨.inr rfl, .inr rfl, .inr rfl, .inr rfl, .inr rfl, .inr rfl, .inl rfl, .inl rfl, .inl rfl, .inl rfl, trivial⟩)
  revert hE h; revert s; intro marks hE h
  refine uSeq ?_
  refine st_setm (Γ' := fun (first : Int) => [.im (tab : (ML4 Int Int (List Int) (List Int))), .im (place : Int), .im (m : Int), .im (more : Int), .im (turn : Int), .im (marks : (List Int)), .im (first : Int), .any, .any, .any]) hE (hf_ixL rfl (hf_pp hr_div (hf_var rfl) (hf_var rfl))) h (fun _ => rfl) (by decide : (6 : Nat) < 10) fun first σ hE h => ?_
  refine uSeq (uAsg (uCallS (uCons ?_)))
  refine st_ixM4_2 (j := 0) hE rfl fun v hE => ?_
  refine uNil ?_
  refine st_call tab.c hE rfl rfl h (fun e x I' H' cls d hm z => x _ H' cls d hm z.clear) fun t2 I H v hE h => ?_
  refine st_store (Γ' := [.im (tab : (ML4 Int Int (List Int) (List Int))), .im (place : Int), .im (m : Int), .im (more : Int), .im (turn : Int), .im (marks : (List Int)), .im (first : Int), .im (t2 : (List Int)), .any, .any]) hE rfl (by decide : (7 : Nat) < 10) fun σ hE => ?_
  refine uSeq (uAsg (uCallS (uCons ?_)))
  refine st_ixM4_3 (j := 0) hE rfl fun v hE => ?_
  refine uNil ?_
  refine st_call tab.d hE rfl rfl h (fun e x I' H' cls d hm z => x _ H' cls d hm z.clear) fun t3 I H v hE h => ?_
  refine st_store (Γ' := [.im (tab : (ML4 Int Int (List Int) (List Int))), .im (place : Int), .im (m : Int), .im (more : Int), .im (turn : Int), .im (marks : (List Int)), .im (first : Int), .im (t2 : (List Int)), .im (t3 : (List Int)), .any]) hE rfl (by decide : (8 : Nat) < 10) fun σ hE => ?_
  refine uSeq (uAsg (uOp ?_))
  refine st_push hE (hf_pp hr_sub (hf_var rfl) (hf_var rfl)) fun hE => ?_
  refine uCallS (uCons ?_)
  refine st_var hE (i := 7) rfl fun v hE => ?_
  refine uCons ?_
  refine st_push hE (hf_var rfl) fun hE => ?_
  refine uNil ?_
  refine st_call (t2, first) hE rfl rfl h (fun e x I' H' cls d hm z => x _ H' cls d hm z.clear.nip) fun t4 I H v hE h => ?_
  refine st_op2 hE hr_mul h fun t5 v hE h => ?_
  refine st_store (Γ' := [.im (tab : (ML4 Int Int (List Int) (List Int))), .im (place : Int), .im (m : Int), .im (more : Int), .im (turn : Int), .im (marks : (List Int)), .im (first : Int), .im (t2 : (List Int)), .im (t3 : (List Int)), .im (t5 : Int)]) hE rfl (by decide : (9 : Nat) < 10) fun σ hE => ?_
  refine uSeq (uAsg (uOp ?_))
  refine st_push hE (hf_var rfl) fun hE => ?_
  refine uOp ?_
  refine st_push hE (hf_var rfl) fun hE => ?_
  refine uCallS (uCons ?_)
  refine st_var hE (i := 8) rfl fun v hE => ?_
  refine uCons ?_
  refine st_push hE (hf_var rfl) fun hE => ?_
  refine uNil ?_
  refine st_call (t3, first) hE rfl rfl h (fun e x I' H' cls d hm z => x _ H' cls d hm z.clear.nip.nip) fun t6 I H v hE h => ?_
  refine st_op2 hE hr_mul h fun t7 v hE h => ?_
  refine st_op2 hE hr_add h fun t8 v hE h => ?_
  refine st_store (Γ' := [.im (tab : (ML4 Int Int (List Int) (List Int))), .im (place : Int), .im (m : Int), .im (more : Int), .im (turn : Int), .im (marks : (List Int)), .im (first : Int), .im (t2 : (List Int)), .im (t3 : (List Int)), .im (t8 : Int)]) hE rfl (by decide : (9 : Nat) < 10) fun σ hE => ?_
  refine uSeq ?_
  refine st_ifjm (fun (code : Int) => [.im (tab : (ML4 Int Int (List Int) (List Int))), .im (place : Int), .im (m : Int), .im (more : Int), .im (turn : Int), .im (marks : (List Int)), .im (first : Int), .im (t2 : (List Int)), .im (t3 : (List Int)), .im (code : Int)]) hE (ht_tt (hf_inL rfl (hf_var rfl))) h (fun h => ?_) (fun h => ?_) (fun s I H σ hE h => ?_)
  ·
    refine st_setm (Γ' := fun (code : Int) => [.im (tab : (ML4 Int Int (List Int) (List Int))), .im (place : Int), .im (m : Int), .im (more : Int), .im (turn : Int), .im (marks : (List Int)), .im (first : Int), .im (t2 : (List Int)), .im (t3 : (List Int)), .im (code : Int)]) hE (hf_pp hr_add (hf_var rfl) (hf_c2p hc_min (hf_var rfl) (hf_var rfl))) h (fun _ => rfl) (by decide : (9 : Nat) < 10) fun code σ hE h => ?_
    exact h _ _ _ (hE.weak (Γ' := [.im (tab : (ML4 Int Int (List Int) (List Int))), .im (place : Int), .im (m : Int), .im (more : Int), .im (turn : Int), .im (marks : (List Int)), .im (first : Int), .im (t2 : (List Int)), .im (t3 : (List Int)), .im (code : Int)]) ⟨.inr rfl, .inr rfl, .inr rfl, .inr rfl, .inr rfl, .inr rfl, .inr rfl, .inr rfl, .inr rfl, .inr rfl, trivial⟩)
  ·
    refine uNext ?_
    exact h _ _ _ (hE.weak (Γ' := [.im (tab : (ML4 Int Int (List Int) (List Int))), .im (place : Int), .im (m : Int), .im (more : Int), .im (turn : Int), .im (marks : (List Int)), .im (first : Int), .im (t2 : (List Int)), .im (t3 : (List Int)), .im (t8 : Int)]) ⟨.inr rfl, .inr rfl, .inr rfl, .inr rfl, .inr rfl, .inr rfl, .inr rfl, .inr rfl, .inr rfl, .inr rfl, trivial⟩)
  revert hE h; revert s; intro code hE h
  refine uSeq ?_
  refine st_ifjm (fun (code : Int) => [.im (tab : (ML4 Int Int (List Int) (List Int))), .im (place : Int), .im (m : Int), .im (more : Int), .im (turn : Int), .im (marks : (List Int)), .im (first : Int), .im (t2 : (List Int)), .im (t3 : (List Int)), .im (code : Int)]) hE (ht_tt (hf_inL rfl (hf_var rfl))) h (fun h => ?_) (fun h => ?_) (fun s I H σ hE h => ?_)
  ·
    refine st_setm (Γ' := fun (code : Int) => [.im (tab : (ML4 Int Int (List Int) (List Int))), .im (place : Int), .im (m : Int), .im (more : Int), .im (turn : Int), .im (marks : (List Int)), .im (first : Int), .im (t2 : (List Int)), .im (t3 : (List Int)), .im (code : Int)]) hE (hf_pp hr_add (hf_var rfl) (hf_c2p hc_max (hf_c (a := (0 : Int)) rfl trivial) (hf_pp hr_sub (hf_var rfl) (hf_var rfl)))) h (fun _ => rfl) (by decide : (9 : Nat) < 10) fun code σ hE h => ?_
    exact h _ _ _ (hE.weak (Γ' := [.im (tab : (ML4 Int Int (List Int) (List Int))), .im (place : Int), .im (m : Int), .im (more : Int), .im (turn : Int), .im (marks : (List Int)), .im (first : Int), .im (t2 : (List Int)), .im (t3 : (List Int)), .im (code : Int)]) ⟨.inr rfl, .inr rfl, .inr rfl, .inr rfl, .inr rfl, .inr rfl, .inr rfl, .inr rfl, .inr rfl, .inr rfl, trivial⟩)
  ·
    refine uNext ?_
    exact h _ _ _ (hE.weak (Γ' := [.im (tab : (ML4 Int Int (List Int) (List Int))), .im (place : Int), .im (m : Int), .im (more : Int), .im (turn : Int), .im (marks : (List Int)), .im (first : Int), .im (t2 : (List Int)), .im (t3 : (List Int)), .im (code : Int)]) ⟨.inr rfl, .inr rfl, .inr rfl, .inr rfl, .inr rfl, .inr rfl, .inr rfl, .inr rfl, .inr rfl, .inr rfl, trivial⟩)
  revert hE h; revert s; intro code hE h
  exact st_ret hE (hf_var rfl) h

theorem ok_law_class (T : Txt Pg w K mg) : FnOk Pg w K mg base (L2N.CX Pg w) 3 T.a_law_class T.d_law_class ["tab", "steps", "place"] (SpM K mg 3 (fun (a : (ML4 Int Int (List Int) (List Int)) × (List (List Int)) × Int) => [.im a.1, .im a.2.1, .im a.2.2]) (fun a => m_law_class a.1 a.2.1 a.2.2) (fun b => .im b)) := by
  refine okN T.F_law_class sc_law_class (fun vs H Q E h => h.1) fun cdv A outer s H vs Q E hr h => ?_
  obtain ⟨hl, ⟨tab, steps, place⟩, I, ρ, Θ, hE, h⟩ := h
  have hE : Env K I H (start N_law_class vs) [.im (tab : (ML4 Int Int (List Int) (List Int))), .im (steps : (List (List Int))), .im (place : Int), .any, .any] ρ Θ := st_start hE (by rw [hl]; first | rfl | done)
  refine ⟨_, (pss_cons (ps_set (i := 3) sc_law_class.nd rfl (.inl rfl) (pv 2))
      (pss_cons (ps_for (passes_of rfl) rfl (pi_list (pe_revL (pv 1))) (pg_name (i := 4) sc_law_class.nd rfl (.inl rfl)) (pss_cons (ps_set (i := 3) sc_law_class.nd rfl (.inl rfl) (pe_op op_mod (pe_callTy call_int1 (by rfl) T.z_int (by decide +kernel) (pa_cons (pv 3) pa_nil)) (pe_ix ix_list (pv 4) pe_int (fun _ _ => rfl))))
      (pss_one (ps_if (pt_cmpR op_ge (pv 3) (pe_ix ix_list (pv 4) pe_int (fun _ _ => rfl)) (nomark _)) (pss_one (ps_ret (pe_op op_sub (pe_op op_add (pe_ix ix_list (pv 4) pe_int (fun _ _ => rfl)) (pv 3)) (pe_ix ix_list (pv 4) pe_int (fun _ _ => rfl))))) pss_nil))))
      (pss_one (ps_ret (pe_callS (ok_law_code (base := base) T) (hr.mono (by decide)) (by rfl) T.g_law_code T.F_law_code.kp T.b_law_code (fun σ => L2N.passAt (L2N.takes_of rfl rfl rfl rfl) σ) (pa_cons (pv 0) (pa_cons (pv 3) pa_nil))))))), ?_⟩
  generalize start N_law_class vs = σ at hE ⊢
  change wp (m_law_class tab steps place) _ _ at h
  unfold m_law_class at h
  refine uSeq ?_
  refine st_setm (Γ' := fun (left : Int) => [.im (tab : (ML4 Int Int (List Int) (List Int))), .im (steps : (List (List Int))), .im (place : Int), .im (left : Int), .any]) hE (hf_var rfl) h (fun _ => rfl) (by decide : (3 : Nat) < 5) fun left σ hE h => ?_
  refine uSeq (uFor (uList (uRevL ?_)))
  refine st_var hE (i := 1) rfl fun v hE => ?_
  refine st_revLI hE fun I H v hE => ?_
  refine it_list hE fun ja hJ => ?_
  refine st_for (α := (List Int)) hJ (RetP K ρ Θ (fun b => .im b) Q) (fun (left : Int) => [.im (tab : (ML4 Int Int (List Int) (List Int))), .im (steps : (List (List Int))), .im (place : Int), .im (left : Int), .any]) hE ⟨.inr rfl, .inr rfl, .inr rfl, .inr rfl, .inl rfl, trivial⟩ h (fun r h => h) (fun step s I H σ v N B hE h => ?_) (fun s I H σ hE h => ?_)
  ·
    revert hE h; revert s; intro left hE h
    refine st_store (Γ' := [.im (tab : (ML4 Int Int (List Int) (List Int))), .im (steps : (List (List Int))), .im (place : Int), .im (left : Int), .im (step : (List Int))]) hE rfl (by decide : (4 : Nat) < 5) fun σ hE => ?_
    refine uSeq ?_
    refine st_setm (Γ' := fun (left : Int) => [.im (tab : (ML4 Int Int (List Int) (List Int))), .im (steps : (List (List Int))), .im (place : Int), .im (left : Int), .im (step : (List Int))]) hE (hf_pm (fun _ => hr_mod) (hf_c1p hc_int (hf_var rfl)) (hf_ixLp rfl (hf_c (a := (0 : Int)) rfl trivial))) h (fun _ => rfl) (by decide : (3 : Nat) < 5) fun left σ hE h => ?_
    refine st_ifm hE (ht_tt (hf_pm (fun _ => hr_ge) (hf_var rfl) (hf_ixLp rfl (hf_c (a := (1 : Int)) rfl trivial)))) h (fun h => ?_) (fun h => ?_)
    ·
      exact st_retm hE.pop (hf_mm (fun _ _ => hr_sub) (hf_mp (fun _ => hr_add) (hf_ixLp rfl (hf_c (a := (2 : Int)) rfl trivial)) (hf_var rfl)) (hf_ixLp rfl (hf_c (a := (1 : Int)) rfl trivial))) h fun t7 h => h
    ·
      refine uNext ?_
      exact h _ _ _ (hE.weak (Γ' := [.im (tab : (ML4 Int Int (List Int) (List Int))), .im (steps : (List (List Int))), .im (place : Int), .im (left : Int), .any]) ⟨.inr rfl, .inr rfl, .inr rfl, .inr rfl, .inl rfl, trivial⟩)
  revert hE h; revert s; intro left hE h
  refine uRet (uCallS (uCons ?_))
  refine st_var hE (i := 0) rfl fun v hE => ?_
  refine uCons ?_
  refine st_push hE (hf_var rfl) fun hE => ?_
  refine uNil ?_
  refine st_call (tab, left) hE rfl rfl h (fun e x I' H' cls d hm z => x _ H' cls d hm z.clear) fun t9 I H v hE h => ?_
  exact h _ _ _ hE.clear

theorem ok_law_led_on (T : Txt Pg w K mg) : FnOk Pg w K mg base (L2N.CX Pg w) 2 T.a_law_led_on T.d_law_led_on ["cells", "periods", "n", "total", "rounds"] (SpM K mg 5 (fun (a : (List Int) × (List Int) × Int × Int × Int) => [.im a.1, .im a.2.1, .im a.2.2.1, .im a.2.2.2.1, .im a.2.2.2.2]) (fun a => m_law_led_on a.1 a.2.1 a.2.2.1 a.2.2.2.1 a.2.2.2.2) (fun b => .im b)) := by
  refine okN T.F_law_led_on sc_law_led_on (fun vs H Q E h => h.1) fun cdv A outer s H vs Q E hr h => ?_
  obtain ⟨hl, ⟨cells, periods, n, total, rounds⟩, I, ρ, Θ, hE, h⟩ := h
  have hE : Env K I H (start N_law_led_on vs) [.im (cells : (List Int)), .im (periods : (List Int)), .im (n : Int), .im (total : Int), .im (rounds : Int), .any, .any, .any, .any, .any, .any, .any, .any, .any, .any] ρ Θ := st_start hE (by rw [hl]; first | rfl | done)
  refine ⟨_, (pss_cons (ps_set (i := 5) sc_law_led_on.nd rfl (.inl rfl) (pe_lstOf (K := K) rfl (by rfl) T.z_list (by decide +kernel) (pa_cons (pv 1) pa_nil)))
      (pss_cons (ps_set (i := 6) sc_law_led_on.nd rfl (.inl rfl) (pv 2))
      (pss_cons (ps_set (i := 7) sc_law_led_on.nd rfl (.inl rfl) (pv 3))
      (pss_cons (ps_set (i := 8) sc_law_led_on.nd rfl (.inl rfl) (pe_lst pa_nil))
      (pss_cons (ps_for (passes_of rfl) rfl (pi_range1 (by rfl) T.z_range (pa_cons (pv 4) pa_nil)) (pg_name (i := 9) sc_law_led_on.nd rfl (.inl rfl)) (pss_cons (ps_set (i := 10) sc_law_led_on.nd rfl (.inl rfl) (pe_callS (ok_law_dig (base := base) T) (hr.mono (by decide)) (by rfl) T.g_law_dig T.F_law_dig.kp T.b_law_dig (fun σ => L2N.passAt (L2N.takes_of rfl rfl rfl rfl) σ) (pa_cons (pv 0) (pa_cons (pe_op op_add pe_int (pv 9)) (pa_cons (pe_lst (pa_cons (pe_callB call_len_seq (by rfl) T.z_len PySem.boot_len (pa_cons (pv 5) pa_nil)) (pa_cons pe_int (pa_cons (pe_op op_powW pe_int pe_int) (pa_cons (pe_op op_powW pe_int pe_int) pa_nil))))) pa_nil)))))
      (pss_cons (ps_set (i := 11) sc_law_led_on.nd rfl (.inr rfl) (pe_ix ix_list (pv 5) (pe_ix ix_list (pv 10) pe_int (fun _ _ => rfl)) (fun _ _ => rfl)))
      (pss_cons (ps_set (i := 12) sc_law_led_on.nd rfl (.inl rfl) (pe_op op_fdivW (pe_op op_sub (pe_op op_powW pe_int pe_int) (pe_callB (cr_max rfl) (by rfl) T.z_max (by decide +kernel) (pa_cons (pe_op op_cat (pv 5) (pe_lst (pa_cons (pv 6) pa_nil))) pa_nil))) (pv 11)))
      (pss_one (ps_if (pt_cmpR op_gt (pv 12) pe_int (nomark _)) (pss_cons (ps_set (i := 13) sc_law_led_on.nd rfl (.inr rfl) (pe_op op_add pe_int (pe_op op_mod (pe_op op_add (pe_op op_mulW (pe_ix ix_list (pv 10) pe_int (fun _ _ => rfl)) (pe_op op_powW pe_int pe_int)) (pe_ix ix_list (pv 10) pe_int (fun _ _ => rfl))) (pv 12))))
      (pss_cons (ps_if (pt_cmpR op_eq (pe_ix ix_list (pv 10) pe_int (fun _ _ => rfl)) pe_int (nomark _)) (pss_one (ps_set (i := 13) sc_law_led_on.nd rfl (.inr rfl) (pe_op op_add pe_int (pe_op op_mod (pe_ix ix_list (pv 10) pe_int (fun _ _ => rfl)) (pe_callB (call_min2 rfl) (by rfl) T.z_min (by decide +kernel) (pa_cons (pv 12) (pa_cons pe_int pa_nil))))))) pss_nil)
      (pss_cons (ps_expr (pe_bm PySem.F.plainAttrs_list PySem.F.slot_list_append PySem.F.type_list_append mt_append (pv 8) (pa_cons (pe_lst (pa_cons (pv 11) (pa_cons (pv 6) (pa_cons (pv 7) pa_nil)))) pa_nil)))
      (pss_cons (ps_set (i := 7) sc_law_led_on.nd rfl (.inl rfl) (pe_op op_add (pv 7) (pe_callB (call_max2 rfl) (by rfl) T.z_max (by decide +kernel) (pa_cons pe_int (pa_cons (pe_op op_sub (pv 11) (pv 6)) pa_nil)))))
      (pss_cons (ps_set (i := 6) sc_law_led_on.nd rfl (.inl rfl) (pe_op op_add (pv 6) (pe_op op_mulW (pv 13) (pv 11))))
      (pss_cons (ps_setLc (i := 5) (own := [("q", 14)]) (g := gName 14) (by rfl) sc_law_led_on.nd rfl rfl (sw_true rfl rfl rfl (by decide +kernel)) (pi_list (pv 5)) (blkOk_by (N := N_law_led_on) (sc := defScope s_law_led_on) (by decide +kernel)) (fun _ _ _ _ _ => pg_name (i := 14) sc_law_led_on.nd rfl (.inl rfl)) (fun _ _ _ _ _ => pts_nil) (fun _ _ _ _ _ => (pe_op op_add (pv 14) (pe_op op_mulW (pv 13) (pv 11)))))
      (pss_one (ps_asg (pv 11) (pg_sub (pv 5) (pe_ix ix_list (pv 10) pe_int (fun _ _ => rfl)) set_list))))))))) pss_nil))))))
      (pss_one (ps_ret (pe_lst (pa_cons (pv 5) (pa_cons (pv 6) (pa_cons (pv 7) (pa_cons (pv 8) pa_nil)))))))))))), ?_⟩
  generalize start N_law_led_on vs = σ at hE ⊢
  change wp (m_law_led_on cells periods n total rounds) _ _ at h
  unfold m_law_led_on at h
  refine uSeq (uAsg (uCB (uCons ?_)))
  refine st_var hE (i := 1) rfl fun v hE => ?_
  refine uNil ?_
  refine st_listO hE fun H v hE => ?_
  refine st_store (Γ' := [.im (cells : (List Int)), .im (periods : (List Int)), .im (n : Int), .im (total : Int), .im (rounds : Int), .own (periods : (List Int)), .any, .any, .any, .any, .any, .any, .any, .any, .any]) hE rfl (by decide : (5 : Nat) < 15) fun σ hE => ?_
  refine uSeq ?_
  refine st_setm (Γ' := fun (size : Int) => [.im (cells : (List Int)), .im (periods : (List Int)), .im (n : Int), .im (total : Int), .im (rounds : Int), .own (periods : (List Int)), .im (size : Int), .any, .any, .any, .any, .any, .any, .any, .any]) hE (hf_var rfl) h (fun _ => rfl) (by decide : (6 : Nat) < 15) fun size σ hE h => ?_
  refine uSeq ?_
  refine st_setm (Γ' := fun (count : Int) => [.im (cells : (List Int)), .im (periods : (List Int)), .im (n : Int), .im (total : Int), .im (rounds : Int), .own (periods : (List Int)), .im (size : Int), .im (count : Int), .any, .any, .any, .any, .any, .any, .any]) hE (hf_var rfl) h (fun _ => rfl) (by decide : (7 : Nat) < 15) fun count σ hE h => ?_
  refine uSeq (uAsg (uLst (uNil ?_)))
  refine st_lstO (α := (List Int)) [] [] rfl (Nat.zero_le _) hE fun H v hE => ?_
  refine st_nameO hE h fun steps hE h => ?_
  refine st_store (Γ' := [.im (cells : (List Int)), .im (periods : (List Int)), .im (n : Int), .im (total : Int), .im (rounds : Int), .own (periods : (List Int)), .im (size : Int), .im (count : Int), .own (steps : (List (List Int))), .any, .any, .any, .any, .any, .any]) hE rfl (by decide : (8 : Nat) < 15) fun σ hE => ?_
  refine uSeq (uFor ?_)
  refine it_rng1 hE (hf_var rfl) h fun xs1 h J hJ => ?_
  refine st_forS (α := Int) hJ (fun (s : (List Int) × Int × Int × (List (List Int))) => match s with | (rows, size, count, steps) => [.im (cells : (List Int)), .im (periods : (List Int)), .im (n : Int), .im (total : Int), .im (rounds : Int), .own (rows : (List Int)), .im (size : Int), .im (count : Int), .own (steps : (List (List Int))), .any, .any, .any, .any, .any, .any]) hE ⟨.inr rfl, .inr rfl, .inr rfl, .inr rfl, .inr rfl, .inr rfl, .inr rfl, .inr rfl, .inr rfl, .inl rfl, .inl rfl, .inl rfl, .inl rfl, .inl rfl, .inl rfl, trivial⟩ h (fun k_ s I H σ v N B hE h => ?_) (fun s I H σ hE h => ?_)
  ·
    obtain ⟨rows, size, count, steps⟩ := s
    refine st_store (Γ' := [.im (cells : (List Int)), .im (periods : (List Int)), .im (n : Int), .im (total : Int), .im (rounds : Int), .own (rows : (List Int)), .im (size : Int), .im (count : Int), .own (steps : (List (List Int))), .im (k_ : Int), .any, .any, .any, .any, .any]) hE rfl (by decide : (9 : Nat) < 15) fun σ hE => ?_
    refine uSeq (uAsg (uCallS (uCons ?_)))
    refine st_var hE (i := 0) rfl fun v hE => ?_
    refine uCons ?_
    refine st_push hE (hf_pp hr_add (hf_c (a := (10 : Int)) rfl trivial) (hf_var rfl)) fun hE => ?_
    refine uCons (uLst (uCons ?_))
    refine st_push hE (hf_lenO (hΓ := rfl)) fun hE => ?_
    refine uCons ?_
    refine st_push hE (hf_c (a := (2 : Int)) rfl trivial) fun hE => ?_
    refine uCons ?_
    refine st_push hE (hf_is (m := (powI (10 : Int) (9 : Int))) (m' := .ok (1000000000 : Int)) (hf_pp hr_pow (hf_c (a := (10 : Int)) rfl trivial) (hf_c (a := (9 : Int)) rfl trivial)) (by decide +kernel)) fun hE => ?_
    refine uCons ?_
    refine st_push hE (hf_is (m := (powI (10 : Int) (9 : Int))) (m' := .ok (1000000000 : Int)) (hf_pp hr_pow (hf_c (a := (10 : Int)) rfl trivial) (hf_c (a := (9 : Int)) rfl trivial)) (by decide +kernel)) fun hE => ?_
    refine uNil ?_
    refine st_lstI (α := Int) _ [((rows.length : Nat) : Int), (2 : Int), (1000000000 : Int), (1000000000 : Int)] rfl (by decide : (4 : Nat) ≤ line) hE fun I H v hE => ?_
    refine uNil ?_
    refine st_call (cells, ((10 : Int) + k_), [((rows.length : Nat) : Int), (2 : Int), (1000000000 : Int), (1000000000 : Int)]) hE rfl rfl h (fun e x I' H' cls d hm z => x _ H' cls d hm z.clear) fun t2 I H v hE h => ?_
    refine st_freezeT hE fun I hE => ?_
    refine st_store (Γ' := [.im (cells : (List Int)), .im (periods : (List Int)), .im (n : Int), .im (total : Int), .im (rounds : Int), .own (rows : (List Int)), .im (size : Int), .im (count : Int), .own (steps : (List (List Int))), .im (k_ : Int), .im (t2 : (List Int)), .any, .any, .any, .any]) hE rfl (by decide : (10 : Nat) < 15) fun σ hE => ?_
    refine uSeq ?_
    refine st_setm (Γ' := fun (p : Int) => [.im (cells : (List Int)), .im (periods : (List Int)), .im (n : Int), .im (total : Int), .im (rounds : Int), .own (rows : (List Int)), .im (size : Int), .im (count : Int), .own (steps : (List (List Int))), .im (k_ : Int), .im (t2 : (List Int)), .im (p : Int), .any, .any, .any]) hE (hf_ixO rfl (hf_ixLp rfl (hf_c (a := (0 : Int)) rfl trivial))) h (fun _ => rfl) (by decide : (11 : Nat) < 15) fun p σ hE h => ?_
    refine uSeq (uAsg (uOp (uOp ?_)))
    refine st_push hE (hf_is (m := (powI (10 : Int) (18 : Int))) (m' := .ok (1000000000000000000 : Int)) (hf_pp hr_pow (hf_c (a := (10 : Int)) rfl trivial) (hf_c (a := (18 : Int)) rfl trivial)) (by decide +kernel)) fun hE => ?_
    obtain ⟨I4_0, s4_0, hE4_0⟩ := hE.let (i := 5) rfl
    obtain ⟨S4, hE, back4, backX4, backO4⟩ := hE.borrowO hE4_0 s4_0
    replace hE : Env K _ _ _ [.im (cells : (List Int)), .im (periods : (List Int)), .im (n : Int), .im (total : Int), .im (rounds : Int), .im (rows : (List Int)), .im (size : Int), .im (count : Int), .any, .im (k_ : Int), .im (t2 : (List Int)), .im (p : Int), .any, .any, .any] _ _ := hE
    refine uCB (uCons (uOp ?_))
    refine st_var hE (i := 5) rfl fun v hE => ?_
    refine uLst (uCons ?_)
    refine st_push hE (hf_var rfl) fun hE => ?_
    refine uNil ?_
    refine st_lstI (α := Int) _ [size] rfl (by decide : (1 : Nat) ≤ line) hE fun I H v hE => ?_
    refine st_catI hE h fun t5 I H v hE h => ?_
    refine uNil ?_
    refine st_maxI hE h fun t6 v hE h => ?_
    replace hE := back4 hE
    refine st_op2 hE hr_sub h fun t7 v hE h => ?_
    refine st_push hE (hf_var rfl) fun hE => ?_
    refine st_op2 hE hr_div h fun t8 v hE h => ?_
    refine st_store (Γ' := [.im (cells : (List Int)), .im (periods : (List Int)), .im (n : Int), .im (total : Int), .im (rounds : Int), .own (rows : (List Int)), .im (size : Int), .im (count : Int), .own (steps : (List (List Int))), .im (k_ : Int), .im (t2 : (List Int)), .im (p : Int), .im (t8 : Int), .any, .any]) hE rfl (by decide : (12 : Nat) < 15) fun σ hE => ?_
    refine st_ifj (fun (s : (List Int) × Int × Int × (List (List Int))) => match s with | (rows, size, count, steps) => [.im (cells : (List Int)), .im (periods : (List Int)), .im (n : Int), .im (total : Int), .im (rounds : Int), .own (rows : (List Int)), .im (size : Int), .im (count : Int), .own (steps : (List (List Int))), .im (k_ : Int), .im (t2 : (List Int)), .im (p : Int), .im (t8 : Int), .any, .any]) hE (ht_tt (hf_pp hr_gt (hf_var rfl) (hf_c (a := (0 : Int)) rfl trivial))) h (fun h => ?_) (fun h => ?_) (fun s I H σ hE h => ?_)
    ·
      refine uSeq ?_
      refine st_setm (Γ' := fun (m : Int) => [.im (cells : (List Int)), .im (periods : (List Int)), .im (n : Int), .im (total : Int), .im (rounds : Int), .own (rows : (List Int)), .im (size : Int), .im (count : Int), .own (steps : (List (List Int))), .im (k_ : Int), .im (t2 : (List Int)), .im (p : Int), .im (t8 : Int), .im (m : Int), .any]) hE (hf_pm (fun _ => hr_add) (hf_c (a := (1 : Int)) rfl trivial) (hf_mp (fun _ => hr_mod) (hf_mm (fun _ _ => hr_add) (hf_mp (fun _ => hr_mul) (hf_ixLp rfl (hf_c (a := (2 : Int)) rfl trivial)) (hf_is (m := (powI (10 : Int) (9 : Int))) (m' := .ok (1000000000 : Int)) (hf_pp hr_pow (hf_c (a := (10 : Int)) rfl trivial) (hf_c (a := (9 : Int)) rfl trivial)) (by decide +kernel))) (hf_ixLp rfl (hf_c (a := (3 : Int)) rfl trivial))) (hf_var rfl))) h (fun _ => rfl) (by decide : (13 : Nat) < 15) fun m σ hE h => ?_
      refine uSeq ?_
      refine st_ifjm (fun (m : Int) => [.im (cells : (List Int)), .im (periods : (List Int)), .im (n : Int), .im (total : Int), .im (rounds : Int), .own (rows : (List Int)), .im (size : Int), .im (count : Int), .own (steps : (List (List Int))), .im (k_ : Int), .im (t2 : (List Int)), .im (p : Int), .im (t8 : Int), .im (m : Int), .any]) hE (ht_tt (hf_mp (fun _ => hr_eqI) (hf_ixLp rfl (hf_c (a := (1 : Int)) rfl trivial)) (hf_c (a := (0 : Int)) rfl trivial))) h (fun h => ?_) (fun h => ?_) (fun s I H σ hE h => ?_)
      ·
        refine st_setm (Γ' := fun (m : Int) => [.im (cells : (List Int)), .im (periods : (List Int)), .im (n : Int), .im (total : Int), .im (rounds : Int), .own (rows : (List Int)), .im (size : Int), .im (count : Int), .own (steps : (List (List Int))), .im (k_ : Int), .im (t2 : (List Int)), .im (p : Int), .im (t8 : Int), .im (m : Int), .any]) hE (hf_pm (fun _ => hr_add) (hf_c (a := (1 : Int)) rfl trivial) (hf_mp (fun _ => hr_mod) (hf_ixLp rfl (hf_c (a := (2 : Int)) rfl trivial)) (hf_c2p hc_min (hf_var rfl) (hf_c (a := (3 : Int)) rfl trivial)))) h (fun _ => rfl) (by decide : (13 : Nat) < 15) fun m σ hE h => ?_
        exact h _ _ _ (hE.weak (Γ' := [.im (cells : (List Int)), .im (periods : (List Int)), .im (n : Int), .im (total : Int), .im (rounds : Int), .own (rows : (List Int)), .im (size : Int), .im (count : Int), .own (steps : (List (List Int))), .im (k_ : Int), .im (t2 : (List Int)), .im (p : Int), .im (t8 : Int), .im (m : Int), .any]) ⟨.inr rfl, .inr rfl, .inr rfl, .inr rfl, .inr rfl, .inr rfl, .inr rfl, .inr rfl, .inr rfl, .inr rfl, .inr rfl, .inr rfl, .inr rfl, .inr rfl, .inl rfl, trivial⟩)
      ·
        refine uNext ?_
        exact h _ _ _ (hE.weak (Γ' := [.im (cells : (List Int)), .im (periods : (List Int)), .im (n : Int), .im (total : Int), .im (rounds : Int), .own (rows : (List Int)), .im (size : Int), .im (count : Int), .own (steps : (List (List Int))), .im (k_ : Int), .im (t2 : (List Int)), .im (p : Int), .im (t8 : Int), .im (m : Int), .any]) ⟨.inr rfl, .inr rfl, .inr rfl, .inr rfl, .inr rfl, .inr rfl, .inr rfl, .inr rfl, .inr rfl, .inr rfl, .inr rfl, .inr rfl, .inr rfl, .inr rfl, .inl rfl, trivial⟩)
      revert hE h; revert s; intro m hE h
      refine uSeq (uDrop ?_)
      refine st_bmO (i := 8) hE rfl fun l17 hl_l17 => ?_
      refine uCons (uLst (uCons ?_))
      refine st_push hE (hf_var rfl) fun hE => ?_
      refine uCons ?_
      refine st_push hE (hf_var rfl) fun hE => ?_
      refine uCons ?_
      refine st_push hE (hf_var rfl) fun hE => ?_
      refine uNil ?_
      refine st_lstI (α := Int) _ [p, size, count] rfl (by decide : (3 : Nat) ≤ line) hE fun I H v hE => ?_
      refine uNil ?_
      refine st_app (i := 8) hE hl_l17 rfl h fun steps H hE h => ?_
      replace hE : Env K _ _ _ [.im (cells : (List Int)), .im (periods : (List Int)), .im (n : Int), .im (total : Int), .im (rounds : Int), .own (rows : (List Int)), .im (size : Int), .im (count : Int), .own (steps : (List (List Int))), .im (k_ : Int), .im (t2 : (List Int)), .im (p : Int), .im (t8 : Int), .im (m : Int), .any] _ _ := hE
      refine uSeq ?_
      refine st_setm (Γ' := fun (count : Int) => [.im (cells : (List Int)), .im (periods : (List Int)), .im (n : Int), .im (total : Int), .im (rounds : Int), .own (rows : (List Int)), .im (size : Int), .im (count : Int), .own (steps : (List (List Int))), .im (k_ : Int), .im (t2 : (List Int)), .im (p : Int), .im (t8 : Int), .im (m : Int), .any]) hE (hf_pp hr_add (hf_var rfl) (hf_c2p hc_max (hf_c (a := (0 : Int)) rfl trivial) (hf_pp hr_sub (hf_var rfl) (hf_var rfl)))) h (fun _ => rfl) (by decide : (7 : Nat) < 15) fun count σ hE h => ?_
      refine uSeq ?_
      refine st_setm (Γ' := fun (size : Int) => [.im (cells : (List Int)), .im (periods : (List Int)), .im (n : Int), .im (total : Int), .im (rounds : Int), .own (rows : (List Int)), .im (size : Int), .im (count : Int), .own (steps : (List (List Int))), .im (k_ : Int), .im (t2 : (List Int)), .im (p : Int), .im (t8 : Int), .im (m : Int), .any]) hE (hf_pm (fun _ => hr_add) (hf_var rfl) (hf_pp hr_mul (hf_var rfl) (hf_var rfl))) h (fun _ => rfl) (by decide : (6 : Nat) < 15) fun size σ hE h => ?_
      refine uSeq (uAsg (uLc (uList ?_)))
      refine st_freeze (i := 5) (Γ' := [.im (cells : (List Int)), .im (periods : (List Int)), .im (n : Int), .im (total : Int), .im (rounds : Int), .im (rows : (List Int)), .im (size : Int), .im (count : Int), .own (steps : (List (List Int))), .im (k_ : Int), .im (t2 : (List Int)), .im (p : Int), .im (t8 : Int), .im (m : Int), .any]) hE rfl rfl fun I hE => ?_
      refine st_var hE (i := 5) rfl fun v hE => ?_
      refine it_list hE fun ja hJ => ?_
      refine st_lcm (α := Int) (β := Int) (i := 14) hJ hE rfl h (fun ys22 I H v hE h => ?_) (fun q I H σ ρ' Θ' Qe hE h => ?_)
      rotate_left 1
      ·
        refine st_pushm hE (hf_pm (fun _ => hr_add) (hf_var rfl) (hf_pp hr_mul (hf_var rfl) (hf_var rfl))) h fun t21 hE h => ?_
        exact h _ _ _ hE
      refine st_store (Γ' := [.im (cells : (List Int)), .im (periods : (List Int)), .im (n : Int), .im (total : Int), .im (rounds : Int), .own (ys22 : (List Int)), .im (size : Int), .im (count : Int), .own (steps : (List (List Int))), .im (k_ : Int), .im (t2 : (List Int)), .im (p : Int), .im (t8 : Int), .im (m : Int), .any]) hE rfl (by decide : (5 : Nat) < 15) fun σ hE => ?_
      refine uAsg ?_
      refine st_push hE (hf_var rfl) fun hE => ?_
      refine st_setLm (i := 5) (Γ' := fun (rows : (List Int)) => [.im (cells : (List Int)), .im (periods : (List Int)), .im (n : Int), .im (total : Int), .im (rounds : Int), .own (rows : (List Int)), .im (size : Int), .im (count : Int), .own (steps : (List (List Int))), .im (k_ : Int), .im (t2 : (List Int)), .im (p : Int), .im (t8 : Int), .im (m : Int), .any]) hE rfl (hf_ixLp rfl (hf_c (a := (0 : Int)) rfl trivial)) h (fun _ => rfl) fun rows H hE h => ?_
      exact h _ _ _ (hE.weak (Γ' := [.im (cells : (List Int)), .im (periods : (List Int)), .im (n : Int), .im (total : Int), .im (rounds : Int), .own (rows : (List Int)), .im (size : Int), .im (count : Int), .own (steps : (List (List Int))), .im (k_ : Int), .im (t2 : (List Int)), .im (p : Int), .im (t8 : Int), .any, .any]) ⟨.inr rfl, .inr rfl, .inr rfl, .inr rfl, .inr rfl, .inr rfl, .inr rfl, .inr rfl, .inr rfl, .inr rfl, .inr rfl, .inr rfl, .inr rfl, .inl rfl, .inl rfl, trivial⟩)
    ·
      refine uNext ?_
      exact h _ _ _ (hE.weak (Γ' := [.im (cells : (List Int)), .im (periods : (List Int)), .im (n : Int), .im (total : Int), .im (rounds : Int), .own (rows : (List Int)), .im (size : Int), .im (count : Int), .own (steps : (List (List Int))), .im (k_ : Int), .im (t2 : (List Int)), .im (p : Int), .im (t8 : Int), .any, .any]) ⟨.inr rfl, .inr rfl, .inr rfl, .inr rfl, .inr rfl, .inr rfl, .inr rfl, .inr rfl, .inr rfl, .inr rfl, .inr rfl, .inr rfl, .inr rfl, .inl rfl, .inl rfl, trivial⟩)
    obtain ⟨rows, size, count, steps⟩ := s
    exact h _ _ _ (hE.weak (Γ' := [.im (cells : (List Int)), .im (periods : (List Int)), .im (n : Int), .im (total : Int), .im (rounds : Int), .own (rows : (List Int)), .im (size : Int), .im (count : Int), .own (steps : (List (List Int))), .any, .any, .any, .any, .any, .any]) ⟨.inr rfl, .inr rfl, .inr rfl, .inr rfl, .inr rfl, .inr rfl, .inr rfl, .inr rfl, .inr rfl, .inl rfl, .inl rfl, .inl rfl, .inl rfl, .inl rfl, .inl rfl, trivial⟩)
  obtain ⟨rows, size, count, steps⟩ := s
  refine uRet (uLst (uCons ?_))
  refine st_freeze (i := 5) (Γ' := [.im (cells : (List Int)), .im (periods : (List Int)), .im (n : Int), .im (total : Int), .im (rounds : Int), .im (rows : (List Int)), .im (size : Int), .im (count : Int), .own (steps : (List (List Int))), .any, .any, .any, .any, .any, .any]) hE rfl rfl fun I hE => ?_
  refine st_var hE (i := 5) rfl fun v hE => ?_
  refine uCons ?_
  refine st_push hE (hf_var rfl) fun hE => ?_
  refine uCons ?_
  refine st_push hE (hf_var rfl) fun hE => ?_
  refine uCons ?_
  refine st_freeze (i := 8) (Γ' := [.im (cells : (List Int)), .im (periods : (List Int)), .im (n : Int), .im (total : Int), .im (rounds : Int), .im (rows : (List Int)), .im (size : Int), .im (count : Int), .im (steps : (List (List Int))), .any, .any, .any, .any, .any, .any]) hE rfl rfl fun I hE => ?_
  refine st_var hE (i := 8) rfl fun v hE => ?_
  refine uNil ?_
  refine st_mk4 hE fun I H v hE => ?_
  exact h _ _ _ hE.clear

theorem ok_law_places (T : Txt Pg w K mg) : FnOk Pg w K mg base (L2N.CX Pg w) 1 T.a_law_places T.d_law_places ["n", "row"] (SpM K mg 2 (fun (a : Int × (List Int)) => [.im a.1, .im a.2]) (fun a => m_law_places a.1 a.2) (fun b => .im b)) := by
  refine okN T.F_law_places sc_law_places (fun vs H Q E h => h.1) fun cdv A outer s H vs Q E hr h => ?_
  obtain ⟨hl, ⟨n, row⟩, I, ρ, Θ, hE, h⟩ := h
  have hE : Env K I H (start N_law_places vs) [.im (n : Int), .im (row : (List Int)), .any, .any] ρ Θ := st_start hE (by rw [hl]; first | rfl | done)
  refine ⟨_, (pss_cons (ps_if (pt_cmpR op_le (pv 0) pe_int (nomark _)) (pss_one (ps_ret (pe_listRg rfl (by rfl) T.z_list (prg_1 (by rfl) T.z_range (pv 0))))) pss_nil)
      (pss_cons (ps_set (i := 2) sc_law_places.nd rfl (.inl rfl) (pe_lst (pa_cons pe_int (pa_cons pe_int (pa_cons (pe_op op_sub (pv 0) pe_int) (pa_cons (pe_op op_fdivW (pv 0) pe_int) pa_nil))))))
      (pss_cons (ps_for (passes_of rfl) rfl (pi_list (pv 1)) (pg_name (i := 3) sc_law_places.nd rfl (.inl rfl)) (pss_cons (ps_expr (pe_bm PySem.F.plainAttrs_list PySem.F.slot_list_append PySem.F.type_list_append mt_append (pv 2) (pa_cons (pe_op op_mod (pe_callTy call_int1 (by rfl) T.z_int (by decide +kernel) (pa_cons (pv 3) pa_nil)) (pv 0)) pa_nil)))
      (pss_one (ps_expr (pe_bm PySem.F.plainAttrs_list PySem.F.slot_list_append PySem.F.type_list_append mt_append (pv 2) (pa_cons (pe_op op_mod (pe_callTy call_int1 (by rfl) T.z_int (by decide +kernel) (pa_cons (pv 3) pa_nil)) pe_int) pa_nil))))))
      (pss_one (ps_ret (pv 2)))))), ?_⟩
  generalize start N_law_places vs = σ at hE ⊢
  change wp (m_law_places n row) _ _ at h
  unfold m_law_places at h
  refine uSeq ?_
  refine st_if hE (ht_tt (hf_pp hr_le (hf_var rfl) (hf_c (a := (60 : Int)) rfl trivial))) h (fun h => ?_) (fun h => ?_)
  ·
    refine uRet ?_
    refine st_lstRgI hE (hf_var rfl) h fun t2 I H v hE h => ?_
    exact h _ _ _ hE.clear
  ·
    refine uNext (uSeq (uAsg (uLst (uCons ?_))))
    refine st_push hE (hf_c (a := (0 : Int)) rfl trivial) fun hE => ?_
    refine uCons ?_
    refine st_push hE (hf_c (a := (1 : Int)) rfl trivial) fun hE => ?_
    refine uCons ?_
    refine st_push hE (hf_pp hr_sub (hf_var rfl) (hf_c (a := (1 : Int)) rfl trivial)) fun hE => ?_
    refine uCons ?_
    refine st_pushm hE (hf_pp hr_div (hf_var rfl) (hf_c (a := (2 : Int)) rfl trivial)) h fun t3 hE h => ?_
    refine uNil ?_
    refine st_lstO (α := Int) _ [(0 : Int), (1 : Int), (n - (1 : Int)), t3] rfl (by decide : (4 : Nat) ≤ line) hE fun H v hE => ?_
    refine st_nameO hE h fun found hE h => ?_
    refine st_store (Γ' := [.im (n : Int), .im (row : (List Int)), .own (found : (List Int)), .any]) hE rfl (by decide : (2 : Nat) < 4) fun σ hE => ?_
    refine uSeq (uFor (uList ?_))
    refine st_var hE (i := 1) rfl fun v hE => ?_
    refine it_list hE fun ja hJ => ?_
    refine st_forS (α := Int) hJ (fun (found : (List Int)) => [.im (n : Int), .im (row : (List Int)), .own (found : (List Int)), .any]) hE ⟨.inr rfl, .inr rfl, .inr rfl, .inl rfl, trivial⟩ h (fun draw s I H σ v N B hE h => ?_) (fun s I H σ hE h => ?_)
    ·
      revert hE h; revert s; intro found hE h
      refine st_store (Γ' := [.im (n : Int), .im (row : (List Int)), .own (found : (List Int)), .im (draw : Int)]) hE rfl (by decide : (3 : Nat) < 4) fun σ hE => ?_
      refine uSeq (uDrop ?_)
      refine st_bmO (i := 2) hE rfl fun l3 hl_l3 => ?_
      refine uCons ?_
      refine st_pushm hE (hf_pp hr_mod (hf_c1p hc_int (hf_var rfl)) (hf_var rfl)) h fun t5 hE h => ?_
      refine uNil ?_
      refine st_app (i := 2) hE hl_l3 rfl h fun found H hE h => ?_
      replace hE : Env K _ _ _ [.im (n : Int), .im (row : (List Int)), .own (found : (List Int)), .im (draw : Int)] _ _ := hE
      refine uDrop ?_
      refine st_bmO (i := 2) hE rfl fun l5 hl_l5 => ?_
      refine uCons ?_
      refine st_pushm hE (hf_pp hr_mod (hf_c1p hc_int (hf_var rfl)) (hf_c (a := (60 : Int)) rfl trivial)) h fun t7 hE h => ?_
      refine uNil ?_
      refine st_app (i := 2) hE hl_l5 rfl h fun found H hE h => ?_
      replace hE : Env K _ _ _ [.im (n : Int), .im (row : (List Int)), .own (found : (List Int)), .im (draw : Int)] _ _ := hE
      exact h _ _ _ (hE.weak (Γ' := [.im (n : Int), .im (row : (List Int)), .own (found : (List Int)), .any]) ⟨.inr rfl, .inr rfl, .inr rfl, .inl rfl, trivial⟩)
    revert hE h; revert s; intro found hE h
    refine uRet ?_
    refine st_freeze (i := 2) (Γ' := [.im (n : Int), .im (row : (List Int)), .im (found : (List Int)), .any]) hE rfl rfl fun I hE => ?_
    refine st_var hE (i := 2) rfl fun v hE => ?_
    exact h _ _ _ hE.clear

theorem ok_law_asked (T : Txt Pg w K mg) : FnOk Pg w K mg base (L2N.CX Pg w) 6 T.a_law_asked T.d_law_asked ["handed", "n", "total", "tab", "steps", "row"] (SpM K mg 6 (fun (a : (SeqL Int) × Int × Int × (ML4 Int Int (List Int) (List Int)) × (List (List Int)) × (List Int)) => [.im a.1, .im a.2.1, .im a.2.2.1, .im a.2.2.2.1, .im a.2.2.2.2.1, .im a.2.2.2.2.2]) (fun a => m_law_asked a.1 a.2.1 a.2.2.1 a.2.2.2.1 a.2.2.2.2.1 a.2.2.2.2.2) (fun b => .im b)) := by
  refine okN T.F_law_asked sc_law_asked (fun vs H Q E h => h.1) fun cdv A outer s H vs Q E hr h => ?_
  obtain ⟨hl, ⟨handed, n, total, tab, steps, row⟩, I, ρ, Θ, hE, h⟩ := h
  have hE : Env K I H (start N_law_asked vs) [.im (handed : (SeqL Int)), .im (n : Int), .im (total : Int), .im (tab : (ML4 Int Int (List Int) (List Int))), .im (steps : (List (List Int))), .im (row : (List Int)), .any, .any] ρ Θ := st_start hE (by rw [hl]; first | rfl | done)
  refine ⟨_, (pss_cons (ps_if (pt_not (pt_val (pe_callS (ok_law_number (base := base) T) (hr.mono (by decide)) (by rfl) T.g_law_number T.F_law_number.kp T.b_law_number (fun σ => L2N.passAt (L2N.takes_of rfl rfl rfl rfl) σ) (pa_cons (pe_callS (ok_class_count (base := base) T) (hr.mono (by decide)) (by rfl) T.g_class_count T.F_class_count.kp T.b_class_count (fun σ => L2N.passAt (L2N.takes_of rfl rfl rfl rfl) σ) (pa_cons (pv 0) (pa_cons (pv 1) pa_nil))) (pa_cons (pv 2) pa_nil))))) (pss_one (ps_ret pe_bl)) pss_nil)
      (pss_cons (ps_for (passes_of rfl) rfl (pi_list (pe_callS (ok_law_places (base := base) T) (hr.mono (by decide)) (by rfl) T.g_law_places T.F_law_places.kp T.b_law_places (fun σ => L2N.passAt (L2N.takes_of rfl rfl rfl rfl) σ) (pa_cons (pv 1) (pa_cons (pv 5) pa_nil)))) (pg_name (i := 6) sc_law_asked.nd rfl (.inl rfl)) (pss_cons (ps_set (i := 7) sc_law_asked.nd rfl (.inl rfl) (pe_callS (ok_law_class (base := base) T) (hr.mono (by decide)) (by rfl) T.g_law_class T.F_law_class.kp T.b_law_class (fun σ => L2N.passAt (L2N.takes_of rfl rfl rfl rfl) σ) (pa_cons (pv 3) (pa_cons (pv 4) (pa_cons (pv 6) pa_nil)))))
      (pss_one (ps_if (pt_not (pt_val (pe_callS (ok_law_number (base := base) T) (hr.mono (by decide)) (by rfl) T.g_law_number T.F_law_number.kp T.b_law_number (fun σ => L2N.passAt (L2N.takes_of rfl rfl rfl rfl) σ) (pa_cons (pe_callS (ok_class_of (base := base) T) (hr.mono (by decide)) (by rfl) T.g_class_of T.F_class_of.kp T.b_class_of (fun σ => L2N.passAt (L2N.takes_of rfl rfl rfl rfl) σ) (pa_cons (pv 0) (pa_cons (pv 1) (pa_cons (pv 6) pa_nil)))) (pa_cons (pv 7) pa_nil))))) (pss_one (ps_ret pe_bl)) pss_nil))))
      (pss_one (ps_ret (pe_callS (ok_law_number (base := base) T) (hr.mono (by decide)) (by rfl) T.g_law_number T.F_law_number.kp T.b_law_number (fun σ => L2N.passAt (L2N.takes_of rfl rfl rfl rfl) σ) (pa_cons (pe_callKS0 (ok_class_count (base := base) T) (hr.mono (by decide)) (by rfl) T.g_class_count T.F_class_count.kp T.k_class_count_0 (fun σ => L2N.passAt (L2N.takes_of rfl rfl rfl rfl) σ) (pk_cons (pv 1) (pk_cons (pv 0) pk_nil))) (pa_cons (pv 2) pa_nil))))))), ?_⟩
  generalize start N_law_asked vs = σ at hE ⊢
  change wp (m_law_asked handed n total tab steps row) _ _ at h
  unfold m_law_asked at h
  refine uSeq (uIf (uNot (uB (uCallS (uCons (uCallS (uCons ?_)))))))
  refine st_var hE (i := 0) rfl fun v hE => ?_
  refine uCons ?_
  refine st_push hE (hf_var rfl) fun hE => ?_
  refine uNil ?_
  refine st_call (handed, n) hE rfl rfl h (fun e x I' H' cls d hm z => x _ H' cls d hm z.clear) fun t1 I H v hE h => ?_
  refine uCons ?_
  refine st_push hE (hf_var rfl) fun hE => ?_
  refine uNil ?_
  refine st_call (t1, total) hE rfl rfl h (fun e x I' H' cls d hm z => x _ H' cls d hm z.clear) fun t2 I H v hE h => ?_
  refine st_vb hE fun hE => ?_
  refine st_ite h (fun h => ?_) (fun h => ?_)
  ·
    exact st_ret hE (hf_c (a := false) rfl trivial) h
  ·
    refine uNext (uSeq (uFor (uList (uCallS (uCons ?_)))))
    refine st_push hE (hf_var rfl) fun hE => ?_
    refine uCons ?_
    refine st_var hE (i := 5) rfl fun v hE => ?_
    refine uNil ?_
    refine st_call (n, row) hE rfl rfl h (fun e x I' H' cls d hm z => x _ H' cls d hm z.clear) fun t3 I H v hE h => ?_
    refine it_list hE fun ja hJ => ?_
    refine st_for (α := Int) hJ (RetP K ρ Θ (fun b => .im b) Q) (fun (_ : Unit) => [.im (handed : (SeqL Int)), .im (n : Int), .im (total : Int), .im (tab : (ML4 Int Int (List Int) (List Int))), .im (steps : (List (List Int))), .im (row : (List Int)), .any, .any]) hE ⟨.inr rfl, .inr rfl, .inr rfl, .inr rfl, .inr rfl, .inr rfl, .inl rfl, .inl rfl, trivial⟩ h (fun r h => h) (fun at_ s I H σ v N B hE h => ?_) (fun s I H σ hE h => ?_)
    ·
      refine st_store (Γ' := [.im (handed : (SeqL Int)), .im (n : Int), .im (total : Int), .im (tab : (ML4 Int Int (List Int) (List Int))), .im (steps : (List (List Int))), .im (row : (List Int)), .im (at_ : Int), .any]) hE rfl (by decide : (6 : Nat) < 8) fun σ hE => ?_
      refine uSeq (uAsg (uCallS (uCons ?_)))
      refine st_var hE (i := 3) rfl fun v hE => ?_
      refine uCons ?_
      refine st_var hE (i := 4) rfl fun v hE => ?_
      refine uCons ?_
      refine st_push hE (hf_var rfl) fun hE => ?_
      refine uNil ?_
      refine st_call (tab, steps, at_) hE rfl rfl h (fun e x I' H' cls d hm z => x _ H' cls d hm z.clear.nip) fun t4 I H v hE h => ?_
      refine st_store (Γ' := [.im (handed : (SeqL Int)), .im (n : Int), .im (total : Int), .im (tab : (ML4 Int Int (List Int) (List Int))), .im (steps : (List (List Int))), .im (row : (List Int)), .im (at_ : Int), .im (t4 : Int)]) hE rfl (by decide : (7 : Nat) < 8) fun σ hE => ?_
      refine uIf (uNot (uB (uCallS (uCons (uCallS (uCons ?_))))))
      refine st_var hE (i := 0) rfl fun v hE => ?_
      refine uCons ?_
      refine st_push hE (hf_var rfl) fun hE => ?_
      refine uCons ?_
      refine st_push hE (hf_var rfl) fun hE => ?_
      refine uNil ?_
      refine st_call (handed, n, at_) hE rfl rfl h (fun e x I' H' cls d hm z => x _ H' cls d hm z.clear.nip) fun t5 I H v hE h => ?_
      refine uCons ?_
      refine st_push hE (hf_var rfl) fun hE => ?_
      refine uNil ?_
      refine st_call (t5, t4) hE rfl rfl h (fun e x I' H' cls d hm z => x _ H' cls d hm z.clear.nip) fun t6 I H v hE h => ?_
      refine st_vb hE fun hE => ?_
      refine st_ite h (fun h => ?_) (fun h => ?_)
      ·
        exact st_ret hE.pop (hf_c (a := false) rfl trivial) h
      ·
        refine uNext ?_
        exact h _ _ _ (hE.weak (Γ' := [.im (handed : (SeqL Int)), .im (n : Int), .im (total : Int), .im (tab : (ML4 Int Int (List Int) (List Int))), .im (steps : (List (List Int))), .im (row : (List Int)), .any, .any]) ⟨.inr rfl, .inr rfl, .inr rfl, .inr rfl, .inr rfl, .inr rfl, .inl rfl, .inl rfl, trivial⟩)
    refine uRet (uCallS (uCons (uCallKS (uNil (uCons ?_)))))
    refine st_push hE (hf_var rfl) fun hE => ?_
    refine uCons ?_
    refine st_var hE (i := 0) rfl fun v hE => ?_
    refine uNil ?_
    refine ⟨rfl, rfl, ?_⟩
    have hE := hE.sw0
    refine st_call (handed, n) hE rfl rfl h (fun e x I' H' cls d hm z => x _ H' cls d hm z.clear) fun t8 I H v hE h => ?_
    refine uCons ?_
    refine st_push hE (hf_var rfl) fun hE => ?_
    refine uNil ?_
    refine st_call (t8, total) hE rfl rfl h (fun e x I' H' cls d hm z => x _ H' cls d hm z.clear) fun t9 I H v hE h => ?_
    exact h _ _ _ hE.clear

theorem ok_law_two (T : Txt Pg w K mg) : FnOk Pg w K mg base (L2N.CX Pg w) 1 T.a_law_two T.d_law_two ["row"] (SpM K mg 1 (fun (a : (List Int)) => [.im a]) (fun a => m_law_two a) (fun b => .im b)) := by
  refine okN T.F_law_two sc_law_two (fun vs H Q E h => h.1) fun cdv A outer s H vs Q E hr h => ?_
  obtain ⟨hl, row, I, ρ, Θ, hE, h⟩ := h
  have hE : Env K I H (start N_law_two vs) [.im (row : (List Int)), .any, .any] ρ Θ := st_start hE (by rw [hl]; first | rfl | done)
  refine ⟨_, (pss_cons (ps_set (i := 1) sc_law_two.nd rfl (.inl rfl) (pe_op op_add (pe_op op_add pe_int (pe_op op_mulW (pe_ix ix_list (pv 0) pe_int (fun _ _ => rfl)) (pe_op op_powW pe_int pe_int))) (pe_ix ix_list (pv 0) pe_int (fun _ _ => rfl))))
      (pss_cons (ps_set (i := 2) sc_law_two.nd rfl (.inl rfl) (pe_op op_add (pe_op op_add pe_int (pe_op op_mulW (pe_ix ix_list (pv 0) pe_int (fun _ _ => rfl)) (pe_op op_powW pe_int pe_int))) (pe_ix ix_list (pv 0) pe_int (fun _ _ => rfl))))
      (pss_cons (ps_if (pt_cmpR op_eq (pe_ix ix_list (pv 0) pe_int (fun _ _ => rfl)) pe_int (nomark _)) (pss_one (ps_set (i := 2) sc_law_two.nd rfl (.inl rfl) (pe_op op_add (pe_op op_add (pv 1) pe_int) (pe_ix ix_list (pv 0) pe_int (fun _ _ => rfl))))) pss_nil)
      (pss_cons (ps_if (pt_cmpR op_eq (pe_ix ix_list (pv 0) pe_int (fun _ _ => rfl)) pe_int (nomark _)) (pss_one (ps_set (i := 2) sc_law_two.nd rfl (.inl rfl) (pe_op op_mulW (pv 1) (pe_op op_add pe_int (pe_ix ix_list (pv 0) pe_int (fun _ _ => rfl)))))) pss_nil)
      (pss_cons (ps_if (pt_cmpR op_eq (pe_ix ix_list (pv 0) pe_int (fun _ _ => rfl)) pe_int (nomark _)) (pss_cons (ps_set (i := 1) sc_law_two.nd rfl (.inl rfl) (pe_op op_mulW (pe_op op_add pe_int (pe_ix ix_list (pv 0) pe_int (fun _ _ => rfl))) (pe_op op_add pe_int (pe_ix ix_list (pv 0) pe_int (fun _ _ => rfl)))))
      (pss_one (ps_set (i := 2) sc_law_two.nd rfl (.inl rfl) (pe_op op_mulW (pe_op op_add pe_int (pe_ix ix_list (pv 0) pe_int (fun _ _ => rfl))) (pe_op op_add pe_int (pe_ix ix_list (pv 0) pe_int (fun _ _ => rfl))))))) pss_nil)
      (pss_cons (ps_if (pt_cmpR op_gt (pv 2) (pe_op op_powW pe_int pe_int) (nomark _)) (pss_one (ps_set (i := 2) sc_law_two.nd rfl (.inl rfl) (pv 1))) pss_nil)
      (pss_one (ps_ret (pe_lst (pa_cons (pe_callB (call_min2 rfl) (by rfl) T.z_min (by decide +kernel) (pa_cons (pv 1) (pa_cons (pv 2) pa_nil))) (pa_cons (pe_callB (call_max2 rfl) (by rfl) T.z_max (by decide +kernel) (pa_cons (pv 1) (pa_cons (pv 2) pa_nil))) pa_nil))))))))))), ?_⟩
  generalize start N_law_two vs = σ at hE ⊢
  change wp (m_law_two row) _ _ at h
  unfold m_law_two at h
  refine uSeq ?_
  refine st_setm (Γ' := fun (first : Int) => [.im (row : (List Int)), .im (first : Int), .any]) hE (hf_mm (fun _ _ => hr_add) (hf_pm (fun _ => hr_add) (hf_c (a := (1 : Int)) rfl trivial) (hf_mp (fun _ => hr_mul) (hf_ixLp rfl (hf_c (a := (1 : Int)) rfl trivial)) (hf_is (m := (powI (10 : Int) (9 : Int))) (m' := .ok (1000000000 : Int)) (hf_pp hr_pow (hf_c (a := (10 : Int)) rfl trivial) (hf_c (a := (9 : Int)) rfl trivial)) (by decide +kernel)))) (hf_ixLp rfl (hf_c (a := (2 : Int)) rfl trivial))) h (fun _ => rfl) (by decide : (1 : Nat) < 3) fun first σ hE h => ?_
  refine uSeq ?_
  refine st_setm (Γ' := fun (second : Int) => [.im (row : (List Int)), .im (first : Int), .im (second : Int)]) hE (hf_mm (fun _ _ => hr_add) (hf_pm (fun _ => hr_add) (hf_c (a := (1 : Int)) rfl trivial) (hf_mp (fun _ => hr_mul) (hf_ixLp rfl (hf_c (a := (3 : Int)) rfl trivial)) (hf_is (m := (powI (10 : Int) (9 : Int))) (m' := .ok (1000000000 : Int)) (hf_pp hr_pow (hf_c (a := (10 : Int)) rfl trivial) (hf_c (a := (9 : Int)) rfl trivial)) (by decide +kernel)))) (hf_ixLp rfl (hf_c (a := (4 : Int)) rfl trivial))) h (fun _ => rfl) (by decide : (2 : Nat) < 3) fun second σ hE h => ?_
  refine uSeq ?_
  refine st_ifjm (fun (second : Int) => [.im (row : (List Int)), .im (first : Int), .im (second : Int)]) hE (ht_tt (hf_mp (fun _ => hr_eqI) (hf_ixLp rfl (hf_c (a := (0 : Int)) rfl trivial)) (hf_c (a := (1 : Int)) rfl trivial))) h (fun h => ?_) (fun h => ?_) (fun s I H σ hE h => ?_)
  ·
    refine st_setm (Γ' := fun (second : Int) => [.im (row : (List Int)), .im (first : Int), .im (second : Int)]) hE (hf_pm (fun _ => hr_add) (hf_pp hr_add (hf_var rfl) (hf_c (a := (1 : Int)) rfl trivial)) (hf_ixLp rfl (hf_c (a := (5 : Int)) rfl trivial))) h (fun _ => rfl) (by decide : (2 : Nat) < 3) fun second σ hE h => ?_
    exact h _ _ _ (hE.weak (Γ' := [.im (row : (List Int)), .im (first : Int), .im (second : Int)]) ⟨.inr rfl, .inr rfl, .inr rfl, trivial⟩)
  ·
    refine uNext ?_
    exact h _ _ _ (hE.weak (Γ' := [.im (row : (List Int)), .im (first : Int), .im (second : Int)]) ⟨.inr rfl, .inr rfl, .inr rfl, trivial⟩)
  revert hE h; revert s; intro second hE h
  refine uSeq ?_
  refine st_ifjm (fun (second : Int) => [.im (row : (List Int)), .im (first : Int), .im (second : Int)]) hE (ht_tt (hf_mp (fun _ => hr_eqI) (hf_ixLp rfl (hf_c (a := (0 : Int)) rfl trivial)) (hf_c (a := (2 : Int)) rfl trivial))) h (fun h => ?_) (fun h => ?_) (fun s I H σ hE h => ?_)
  ·
    refine st_setm (Γ' := fun (second : Int) => [.im (row : (List Int)), .im (first : Int), .im (second : Int)]) hE (hf_pm (fun _ => hr_mul) (hf_var rfl) (hf_pm (fun _ => hr_add) (hf_c (a := (2 : Int)) rfl trivial) (hf_ixLp rfl (hf_c (a := (5 : Int)) rfl trivial)))) h (fun _ => rfl) (by decide : (2 : Nat) < 3) fun second σ hE h => ?_
    exact h _ _ _ (hE.weak (Γ' := [.im (row : (List Int)), .im (first : Int), .im (second : Int)]) ⟨.inr rfl, .inr rfl, .inr rfl, trivial⟩)
  ·
    refine uNext ?_
    exact h _ _ _ (hE.weak (Γ' := [.im (row : (List Int)), .im (first : Int), .im (second : Int)]) ⟨.inr rfl, .inr rfl, .inr rfl, trivial⟩)
  revert hE h; revert s; intro second hE h
  refine uSeq ?_
  refine st_ifjm (fun (s : Int × Int) => match s with | (first, second) => [.im (row : (List Int)), .im (first : Int), .im (second : Int)]) hE (ht_tt (hf_mp (fun _ => hr_eqI) (hf_ixLp rfl (hf_c (a := (0 : Int)) rfl trivial)) (hf_c (a := (3 : Int)) rfl trivial))) h (fun h => ?_) (fun h => ?_) (fun s I H σ hE h => ?_)
  ·
    refine uSeq ?_
    refine st_setm (Γ' := fun (first : Int) => [.im (row : (List Int)), .im (first : Int), .im (second : Int)]) hE (hf_mm (fun _ _ => hr_mul) (hf_pm (fun _ => hr_add) (hf_c (a := (1 : Int)) rfl trivial) (hf_ixLp rfl (hf_c (a := (1 : Int)) rfl trivial))) (hf_pm (fun _ => hr_add) (hf_c (a := (1 : Int)) rfl trivial) (hf_ixLp rfl (hf_c (a := (2 : Int)) rfl trivial)))) h (fun _ => rfl) (by decide : (1 : Nat) < 3) fun first σ hE h => ?_
    refine st_setm (Γ' := fun (second : Int) => [.im (row : (List Int)), .im (first : Int), .im (second : Int)]) hE (hf_mm (fun _ _ => hr_mul) (hf_pm (fun _ => hr_add) (hf_c (a := (1 : Int)) rfl trivial) (hf_ixLp rfl (hf_c (a := (3 : Int)) rfl trivial))) (hf_pm (fun _ => hr_add) (hf_c (a := (1 : Int)) rfl trivial) (hf_ixLp rfl (hf_c (a := (2 : Int)) rfl trivial)))) h (fun _ => rfl) (by decide : (2 : Nat) < 3) fun second σ hE h => ?_
    exact h _ _ _ (hE.weak (Γ' := [.im (row : (List Int)), .im (first : Int), .im (second : Int)]) ⟨.inr rfl, .inr rfl, .inr rfl, trivial⟩)
  ·
    refine uNext ?_
    exact h _ _ _ (hE.weak (Γ' := [.im (row : (List Int)), .im (first : Int), .im (second : Int)]) ⟨.inr rfl, .inr rfl, .inr rfl, trivial⟩)
  obtain ⟨first, second⟩ := s
  refine uSeq ?_
  refine st_ifj (fun (second : Int) => [.im (row : (List Int)), .im (first : Int), .im (second : Int)]) hE (ht_tt (hf_pp hr_gt (hf_var rfl) (hf_is (m := (powI (10 : Int) (18 : Int))) (m' := .ok (1000000000000000000 : Int)) (hf_pp hr_pow (hf_c (a := (10 : Int)) rfl trivial) (hf_c (a := (18 : Int)) rfl trivial)) (by decide +kernel)))) h (fun h => ?_) (fun h => ?_) (fun s I H σ hE h => ?_)
  ·
    refine st_setm (Γ' := fun (second : Int) => [.im (row : (List Int)), .im (first : Int), .im (second : Int)]) hE (hf_var rfl) h (fun _ => rfl) (by decide : (2 : Nat) < 3) fun second σ hE h => ?_
    exact h _ _ _ (hE.weak (Γ' := [.im (row : (List Int)), .im (first : Int), .im (second : Int)]) ⟨.inr rfl, .inr rfl, .inr rfl, trivial⟩)
  ·
    refine uNext ?_
    exact h _ _ _ (hE.weak (Γ' := [.im (row : (List Int)), .im (first : Int), .im (second : Int)]) ⟨.inr rfl, .inr rfl, .inr rfl, trivial⟩)
  revert hE h; revert s; intro second hE h
  refine uRet (uLst (uCons ?_))
  refine st_push hE (hf_c2p hc_min (hf_var rfl) (hf_var rfl)) fun hE => ?_
  refine uCons ?_
  refine st_push hE (hf_c2p hc_max (hf_var rfl) (hf_var rfl)) fun hE => ?_
  refine uNil ?_
  refine st_lstI (α := Int) _ [(min first second), (max first second)] rfl (by decide : (2 : Nat) ≤ line) hE fun I H v hE => ?_
  exact h _ _ _ hE.clear

theorem ok_law_gcd (T : Txt Pg w K mg) : FnOk Pg w K mg base (L2N.CX Pg w) 1 T.a_law_gcd T.d_law_gcd ["first", "second"] (SpM K mg 2 (fun (a : Int × Int) => [.im a.1, .im a.2]) (fun a => m_law_gcd a.1 a.2) (fun b => .im b)) := by
  refine okN T.F_law_gcd sc_law_gcd (fun vs H Q E h => h.1) fun cdv A outer s H vs Q E hr h => ?_
  obtain ⟨hl, ⟨first, second⟩, I, ρ, Θ, hE, h⟩ := h
  have hE : Env K I H (start N_law_gcd vs) [.im (first : Int), .im (second : Int), .any, .any, .any, .any] ρ Θ := st_start hE (by rw [hl]; first | rfl | done)
  refine ⟨_, (pss_cons (ps_set (i := 2) sc_law_gcd.nd rfl (.inl rfl) (pv 0))
      (pss_cons (ps_set (i := 3) sc_law_gcd.nd rfl (.inl rfl) (pv 1))
      (pss_cons (ps_for (passes_of rfl) rfl (pi_range1 (by rfl) T.z_range (pa_cons pe_int pa_nil)) (pg_name (i := 4) sc_law_gcd.nd rfl (.inl rfl)) (pss_one (ps_if (pt_cmpR op_ne (pv 3) pe_int (nomark _)) (pss_cons (ps_set (i := 5) sc_law_gcd.nd rfl (.inl rfl) (pe_op op_mod (pe_callTy call_int1 (by rfl) T.z_int (by decide +kernel) (pa_cons (pv 2) pa_nil)) (pv 3)))
      (pss_cons (ps_set (i := 2) sc_law_gcd.nd rfl (.inl rfl) (pv 3))
      (pss_one (ps_set (i := 3) sc_law_gcd.nd rfl (.inl rfl) (pv 5))))) pss_nil)))
      (pss_one (ps_ret (pv 2)))))), ?_⟩
  generalize start N_law_gcd vs = σ at hE ⊢
  change wp (m_law_gcd first second) _ _ at h
  unfold m_law_gcd at h
  refine uSeq ?_
  refine st_setm (Γ' := fun (a_ : Int) => [.im (first : Int), .im (second : Int), .im (a_ : Int), .any, .any, .any]) hE (hf_var rfl) h (fun _ => rfl) (by decide : (2 : Nat) < 6) fun a_ σ hE h => ?_
  refine uSeq ?_
  refine st_setm (Γ' := fun (b_ : Int) => [.im (first : Int), .im (second : Int), .im (a_ : Int), .im (b_ : Int), .any, .any]) hE (hf_var rfl) h (fun _ => rfl) (by decide : (3 : Nat) < 6) fun b_ σ hE h => ?_
  refine uSeq (uFor ?_)
  refine it_rng1 hE (hf_c (a := (100 : Int)) rfl trivial) h fun xs1 h J hJ => ?_
  refine st_forS (α := Int) hJ (fun (s : Int × Int) => match s with | (a_, b_) => [.im (first : Int), .im (second : Int), .im (a_ : Int), .im (b_ : Int), .any, .any]) hE ⟨.inr rfl, .inr rfl, .inr rfl, .inr rfl, .inl rfl, .inl rfl, trivial⟩ h (fun k_ s I H σ v N B hE h => ?_) (fun s I H σ hE h => ?_)
  ·
    obtain ⟨a_, b_⟩ := s
    refine st_store (Γ' := [.im (first : Int), .im (second : Int), .im (a_ : Int), .im (b_ : Int), .im (k_ : Int), .any]) hE rfl (by decide : (4 : Nat) < 6) fun σ hE => ?_
    refine st_ifj (fun (s : Int × Int) => match s with | (a_, b_) => [.im (first : Int), .im (second : Int), .im (a_ : Int), .im (b_ : Int), .im (k_ : Int), .any]) hE (ht_tt (hf_pp hr_neI (hf_var rfl) (hf_c (a := (0 : Int)) rfl trivial))) h (fun h => ?_) (fun h => ?_) (fun s I H σ hE h => ?_)
    ·
      refine uSeq ?_
      refine st_setm (Γ' := fun (rest_ : Int) => [.im (first : Int), .im (second : Int), .im (a_ : Int), .im (b_ : Int), .im (k_ : Int), .im (rest_ : Int)]) hE (hf_pp hr_mod (hf_c1p hc_int (hf_var rfl)) (hf_var rfl)) h (fun _ => rfl) (by decide : (5 : Nat) < 6) fun rest_ σ hE h => ?_
      refine uSeq ?_
      refine st_setm (Γ' := fun (a_ : Int) => [.im (first : Int), .im (second : Int), .im (a_ : Int), .im (b_ : Int), .im (k_ : Int), .im (rest_ : Int)]) hE (hf_var rfl) h (fun _ => rfl) (by decide : (2 : Nat) < 6) fun a_ σ hE h => ?_
      refine st_setm (Γ' := fun (b_ : Int) => [.im (first : Int), .im (second : Int), .im (a_ : Int), .im (b_ : Int), .im (k_ : Int), .im (rest_ : Int)]) hE (hf_var rfl) h (fun _ => rfl) (by decide : (3 : Nat) < 6) fun b_ σ hE h => ?_
      exact h _ _ _ (hE.weak (Γ' := [.im (first : Int), .im (second : Int), .im (a_ : Int), .im (b_ : Int), .im (k_ : Int), .any]) ⟨.inr rfl, .inr rfl, .inr rfl, .inr rfl, .inr rfl, .inl rfl, trivial⟩)
    ·
      refine uNext ?_
      exact h _ _ _ (hE.weak (Γ' := [.im (first : Int), .im (second : Int), .im (a_ : Int), .im (b_ : Int), .im (k_ : Int), .any]) ⟨.inr rfl, .inr rfl, .inr rfl, .inr rfl, .inr rfl, .inl rfl, trivial⟩)
    obtain ⟨a_, b_⟩ := s
    exact h _ _ _ (hE.weak (Γ' := [.im (first : Int), .im (second : Int), .im (a_ : Int), .im (b_ : Int), .any, .any]) ⟨.inr rfl, .inr rfl, .inr rfl, .inr rfl, .inl rfl, .inl rfl, trivial⟩)
  obtain ⟨a_, b_⟩ := s
  exact st_ret hE (hf_var rfl) h

theorem ok_law_two_asked (T : Txt Pg w K mg) : FnOk Pg w K mg base (L2N.CX Pg w) 6 T.a_law_two_asked T.d_law_two_asked ["low", "high", "draw"] (SpM K mg 3 (fun (a : Int × Int × Int) => [.im a.1, .im a.2.1, .im a.2.2]) (fun a => m_law_two_asked a.1 a.2.1 a.2.2) (fun b => .im b)) := by
  refine okN T.F_law_two_asked sc_law_two_asked (fun vs H Q E h => h.1) fun cdv A outer s H vs Q E hr h => ?_
  obtain ⟨hl, ⟨low, high, draw⟩, I, ρ, Θ, hE, h⟩ := h
  have hE : Env K I H (start N_law_two_asked vs) [.im (low : Int), .im (high : Int), .im (draw : Int), .any, .any, .any, .any, .any, .any] ρ Θ := st_start hE (by rw [hl]; first | rfl | done)
  refine ⟨_, (pss_cons (ps_set (i := 3) sc_law_two_asked.nd rfl (.inl rfl) (pe_callS (ok_law_gcd (base := base) T) (hr.mono (by decide)) (by rfl) T.g_law_gcd T.F_law_gcd.kp T.b_law_gcd (fun σ => L2N.passAt (L2N.takes_of rfl rfl rfl rfl) σ) (pa_cons (pv 0) (pa_cons (pv 1) pa_nil))))
      (pss_cons (ps_set (i := 4) sc_law_two_asked.nd rfl (.inl rfl) (pe_op op_sub (pe_op op_add (pv 0) (pv 1)) (pv 3)))
      (pss_cons (ps_set (i := 5) sc_law_two_asked.nd rfl (.inl rfl) (pe_lst (pa_cons (pe_op op_sub (pv 0) pe_int) (pa_cons (pv 0) (pa_cons (pe_op op_add (pv 0) pe_int) (pa_cons (pv 1) (pa_cons (pe_op op_add (pv 1) pe_int) pa_nil)))))))
      (pss_cons (ps_for (passes_of rfl) rfl (pi_list (pe_op op_cat (pv 5) (pe_lst (pa_cons (pe_op op_sub (pv 4) pe_int) (pa_cons (pv 4) (pa_cons (pe_op op_powW pe_int pe_int) (pa_cons (pv 2) pa_nil))))))) (pg_name (i := 6) sc_law_two_asked.nd rfl (.inl rfl)) (pss_cons (ps_set (i := 7) sc_law_two_asked.nd rfl (.inl rfl) (pv 3))
      (pss_cons (ps_if (pt_cmpR op_lt (pv 6) (pv 4) (nomark _)) (pss_one (ps_set (i := 7) sc_law_two_asked.nd rfl (.inl rfl) (pe_op op_sub (pe_op op_add (pv 0) (pv 1)) (pv 6)))) pss_nil)
      (pss_cons (ps_if (PW.pt (pw_or (pt_cmpR op_le (pv 6) (pv 1) (nomark _)) (pw_or1 (pt_cmpR op_eq (pv 3) (pv 0) (nomark _))))) (pss_one (ps_set (i := 7) sc_law_two_asked.nd rfl (.inl rfl) (pe_callB (call_min2 rfl) (by rfl) T.z_min (by decide +kernel) (pa_cons (pv 6) (pa_cons (pv 0) pa_nil))))) pss_nil)
      (pss_cons (ps_if (PW.pt (pw_and (pt_cmpR op_le pe_int (pv 6) (nomark _)) (pw_and1 (pt_cmpR op_le (pv 6) (pe_op op_powW pe_int pe_int) (nomark _))))) (pss_one (ps_if (pt_not (pt_val (pe_callS (ok_law_number (base := base) T) (hr.mono (by decide)) (by rfl) T.g_law_number T.F_law_number.kp T.b_law_number (fun σ => L2N.passAt (L2N.takes_of rfl rfl rfl rfl) σ) (pa_cons (pe_callS (ok_class_count (base := base) T) (hr.mono (by decide)) (by rfl) T.g_class_count T.F_class_count.kp T.b_class_count (fun σ => L2N.passAt (L2N.takes_of rfl rfl rfl rfl) σ) (pa_cons (pe_lst (pa_cons (pv 1) (pa_cons (pv 0) pa_nil))) (pa_cons (pv 6) pa_nil))) (pa_cons (pv 7) pa_nil))))) (pss_one (ps_ret pe_bl)) pss_nil)) pss_nil)
      (pss_one (ps_if (PW.pt (pw_and (pt_cmpR op_lt pe_int (pv 6) (nomark _)) (pw_and (pt_cmpR op_le (pv 6) (pe_op op_powW pe_int pe_int) (nomark _)) (pw_and1 (PW.pt (pw_or (pt_cmpR op_eq (pv 7) (pv 3) (nomark _)) (pw_or1 (pt_cmpR op_le (pv 6) (pv 1) (nomark _))))))))) (pss_one (ps_for (passes_of rfl) rfl (pi_list (pe_lst (pa_cons pe_int (pa_cons (pe_op op_sub (pv 6) pe_int) (pa_cons (pe_op op_mod (pe_callTy call_int1 (by rfl) T.z_int (by decide +kernel) (pa_cons (pv 2) pa_nil)) (pv 6)) (pa_cons (pe_op op_mod (pe_callTy call_int1 (by rfl) T.z_int (by decide +kernel) (pa_cons (pv 2) pa_nil)) (pe_callB (call_min2 rfl) (by rfl) T.z_min (by decide +kernel) (pa_cons (pv 6) (pa_cons (pe_op op_add (pv 0) pe_int) pa_nil)))) pa_nil)))))) (pg_name (i := 8) sc_law_two_asked.nd rfl (.inl rfl)) (pss_one (ps_if (pt_not (pt_val (pe_callS (ok_law_number (base := base) T) (hr.mono (by decide)) (by rfl) T.g_law_number T.F_law_number.kp T.b_law_number (fun σ => L2N.passAt (L2N.takes_of rfl rfl rfl rfl) σ) (pa_cons (pe_callS (ok_class_of (base := base) T) (hr.mono (by decide)) (by rfl) T.g_class_of T.F_class_of.kp T.b_class_of (fun σ => L2N.passAt (L2N.takes_of rfl rfl rfl rfl) σ) (pa_cons (pe_lst (pa_cons (pv 0) (pa_cons (pv 1) pa_nil))) (pa_cons (pv 6) (pa_cons (pv 8) pa_nil)))) (pa_cons (pe_op op_mod (pe_callTy call_int1 (by rfl) T.z_int (by decide +kernel) (pa_cons (pv 8) pa_nil)) (pv 7)) pa_nil))))) (pss_one (ps_ret pe_bl)) pss_nil)))) pss_nil)))))))
      (pss_one (ps_ret pe_bl)))))), ?_⟩
  generalize start N_law_two_asked vs = σ at hE ⊢
  change wp (m_law_two_asked low high draw) _ _ at h
  unfold m_law_two_asked at h
  refine uSeq (uAsg (uCallS (uCons ?_)))
  refine st_push hE (hf_var rfl) fun hE => ?_
  refine uCons ?_
  refine st_push hE (hf_var rfl) fun hE => ?_
  refine uNil ?_
  refine st_call (low, high) hE rfl rfl h (fun e x I' H' cls d hm z => x _ H' cls d hm z.clear) fun t1 I H v hE h => ?_
  refine st_store (Γ' := [.im (low : Int), .im (high : Int), .im (draw : Int), .im (t1 : Int), .any, .any, .any, .any, .any]) hE rfl (by decide : (3 : Nat) < 9) fun σ hE => ?_
  refine uSeq ?_
  refine st_setm (Γ' := fun (most : Int) => [.im (low : Int), .im (high : Int), .im (draw : Int), .im (t1 : Int), .im (most : Int), .any, .any, .any, .any]) hE (hf_pp hr_sub (hf_pp hr_add (hf_var rfl) (hf_var rfl)) (hf_var rfl)) h (fun _ => rfl) (by decide : (4 : Nat) < 9) fun most σ hE h => ?_
  refine uSeq (uAsg (uLst (uCons ?_)))
  refine st_push hE (hf_pp hr_sub (hf_var rfl) (hf_c (a := (1 : Int)) rfl trivial)) fun hE => ?_
  refine uCons ?_
  refine st_push hE (hf_var rfl) fun hE => ?_
  refine uCons ?_
  refine st_push hE (hf_pp hr_add (hf_var rfl) (hf_c (a := (1 : Int)) rfl trivial)) fun hE => ?_
  refine uCons ?_
  refine st_push hE (hf_var rfl) fun hE => ?_
  refine uCons ?_
  refine st_push hE (hf_pp hr_add (hf_var rfl) (hf_c (a := (1 : Int)) rfl trivial)) fun hE => ?_
  refine uNil ?_
  refine st_lstI (α := Int) _ [(low - (1 : Int)), low, (low + (1 : Int)), high, (high + (1 : Int))] rfl (by decide : (5 : Nat) ≤ line) hE fun I H v hE => ?_
  refine st_name hE h fun lengths hE h => ?_
  refine st_store (Γ' := [.im (low : Int), .im (high : Int), .im (draw : Int), .im (t1 : Int), .im (most : Int), .im (lengths : (List Int)), .any, .any, .any]) hE rfl (by decide : (5 : Nat) < 9) fun σ hE => ?_
  refine uSeq (uFor (uList (uOp ?_)))
  refine st_var hE (i := 5) rfl fun v hE => ?_
  refine uLst (uCons ?_)
  refine st_push hE (hf_pp hr_sub (hf_var rfl) (hf_c (a := (1 : Int)) rfl trivial)) fun hE => ?_
  refine uCons ?_
  refine st_push hE (hf_var rfl) fun hE => ?_
  refine uCons ?_
  refine st_push hE (hf_is (m := (powI (10 : Int) (18 : Int))) (m' := .ok (1000000000000000000 : Int)) (hf_pp hr_pow (hf_c (a := (10 : Int)) rfl trivial) (hf_c (a := (18 : Int)) rfl trivial)) (by decide +kernel)) fun hE => ?_
  refine uCons ?_
  refine st_push hE (hf_var rfl) fun hE => ?_
  refine uNil ?_
  refine st_lstI (α := Int) _ [(most - (1 : Int)), most, (1000000000000000000 : Int), draw] rfl (by decide : (4 : Nat) ≤ line) hE fun I H v hE => ?_
  refine st_catI hE h fun t2 I H v hE h => ?_
  refine it_list hE fun ja hJ => ?_
  refine st_for (α := Int) hJ (RetP K ρ Θ (fun b => .im b) Q) (fun (_ : Unit) => [.im (low : Int), .im (high : Int), .im (draw : Int), .im (t1 : Int), .im (most : Int), .im (lengths : (List Int)), .any, .any, .any]) hE ⟨.inr rfl, .inr rfl, .inr rfl, .inr rfl, .inr rfl, .inr rfl, .inl rfl, .inl rfl, .inl rfl, trivial⟩ h (fun r h => h) (fun n s I H σ v N B hE h => ?_) (fun s I H σ hE h => ?_)
  ·
    refine st_store (Γ' := [.im (low : Int), .im (high : Int), .im (draw : Int), .im (t1 : Int), .im (most : Int), .im (lengths : (List Int)), .im (n : Int), .any, .any]) hE rfl (by decide : (6 : Nat) < 9) fun σ hE => ?_
    refine uSeq ?_
    refine st_setm (Γ' := fun (due : Int) => [.im (low : Int), .im (high : Int), .im (draw : Int), .im (t1 : Int), .im (most : Int), .im (lengths : (List Int)), .im (n : Int), .im (due : Int), .any]) hE (hf_var rfl) h (fun _ => rfl) (by decide : (7 : Nat) < 9) fun due σ hE h => ?_
    refine uSeq ?_
    refine st_ifj (fun (due : Int) => [.im (low : Int), .im (high : Int), .im (draw : Int), .im (t1 : Int), .im (most : Int), .im (lengths : (List Int)), .im (n : Int), .im (due : Int), .any]) hE (ht_tt (hf_pp hr_lt (hf_var rfl) (hf_var rfl))) h (fun h => ?_) (fun h => ?_) (fun s I H σ hE h => ?_)
    ·
      refine st_setm (Γ' := fun (due : Int) => [.im (low : Int), .im (high : Int), .im (draw : Int), .im (t1 : Int), .im (most : Int), .im (lengths : (List Int)), .im (n : Int), .im (due : Int), .any]) hE (hf_pp hr_sub (hf_pp hr_add (hf_var rfl) (hf_var rfl)) (hf_var rfl)) h (fun _ => rfl) (by decide : (7 : Nat) < 9) fun due σ hE h => ?_
      exact h _ _ _ (hE.weak (Γ' := [.im (low : Int), .im (high : Int), .im (draw : Int), .im (t1 : Int), .im (most : Int), .im (lengths : (List Int)), .im (n : Int), .im (due : Int), .any]) ⟨.inr rfl, .inr rfl, .inr rfl, .inr rfl, .inr rfl, .inr rfl, .inr rfl, .inr rfl, .inl rfl, trivial⟩)
    ·
      refine uNext ?_
      exact h _ _ _ (hE.weak (Γ' := [.im (low : Int), .im (high : Int), .im (draw : Int), .im (t1 : Int), .im (most : Int), .im (lengths : (List Int)), .im (n : Int), .im (due : Int), .any]) ⟨.inr rfl, .inr rfl, .inr rfl, .inr rfl, .inr rfl, .inr rfl, .inr rfl, .inr rfl, .inl rfl, trivial⟩)
    revert hE h; revert s; intro due hE h
    refine uSeq ?_
    refine st_ifj (fun (due : Int) => [.im (low : Int), .im (high : Int), .im (draw : Int), .im (t1 : Int), .im (most : Int), .im (lengths : (List Int)), .im (n : Int), .im (due : Int), .any]) hE (ht_or_pp (ht_tt (hf_pp hr_le (hf_var rfl) (hf_var rfl))) (ht_tt (hf_pp hr_eqI (hf_var rfl) (hf_var rfl)))) h (fun h => ?_) (fun h => ?_) (fun s I H σ hE h => ?_)
    ·
      refine st_setm (Γ' := fun (due : Int) => [.im (low : Int), .im (high : Int), .im (draw : Int), .im (t1 : Int), .im (most : Int), .im (lengths : (List Int)), .im (n : Int), .im (due : Int), .any]) hE (hf_c2p hc_min (hf_var rfl) (hf_var rfl)) h (fun _ => rfl) (by decide : (7 : Nat) < 9) fun due σ hE h => ?_
      exact h _ _ _ (hE.weak (Γ' := [.im (low : Int), .im (high : Int), .im (draw : Int), .im (t1 : Int), .im (most : Int), .im (lengths : (List Int)), .im (n : Int), .im (due : Int), .any]) ⟨.inr rfl, .inr rfl, .inr rfl, .inr rfl, .inr rfl, .inr rfl, .inr rfl, .inr rfl, .inl rfl, trivial⟩)
    ·
      refine uNext ?_
      exact h _ _ _ (hE.weak (Γ' := [.im (low : Int), .im (high : Int), .im (draw : Int), .im (t1 : Int), .im (most : Int), .im (lengths : (List Int)), .im (n : Int), .im (due : Int), .any]) ⟨.inr rfl, .inr rfl, .inr rfl, .inr rfl, .inr rfl, .inr rfl, .inr rfl, .inr rfl, .inl rfl, trivial⟩)
    revert hE h; revert s; intro due hE h
    refine uSeq ?_
    refine st_if hE (ht_and_pp (ht_tt (hf_pp hr_le (hf_c (a := (0 : Int)) rfl trivial) (hf_var rfl))) (ht_tt (hf_pp hr_le (hf_var rfl) (hf_is (m := (powI (10 : Int) (18 : Int))) (m' := .ok (1000000000000000000 : Int)) (hf_pp hr_pow (hf_c (a := (10 : Int)) rfl trivial) (hf_c (a := (18 : Int)) rfl trivial)) (by decide +kernel))))) h (fun h => ?_) (fun h => ?_)
    ·
      refine uIf (uNot (uB (uCallS (uCons (uCallS (uCons (uLst (uCons ?_))))))))
      refine st_push hE (hf_var rfl) fun hE => ?_
      refine uCons ?_
      refine st_push hE (hf_var rfl) fun hE => ?_
      refine uNil ?_
      refine st_lstI (α := Int) _ [high, low] rfl (by decide : (2 : Nat) ≤ line) hE fun I H v hE => ?_
      replace hE := hE.listSeq
      refine uCons ?_
      refine st_push hE (hf_var rfl) fun hE => ?_
      refine uNil ?_
      refine st_call ((SeqL.mk [high, low]), n) hE rfl rfl h (fun e x I' H' cls d hm z => x _ H' cls d hm z.clear.nip) fun t3 I H v hE h => ?_
      refine uCons ?_
      refine st_push hE (hf_var rfl) fun hE => ?_
      refine uNil ?_
      refine st_call (t3, due) hE rfl rfl h (fun e x I' H' cls d hm z => x _ H' cls d hm z.clear.nip) fun t4 I H v hE h => ?_
      refine st_vb hE fun hE => ?_
      refine st_ite h (fun h => ?_) (fun h => ?_)
      ·
        exact st_ret hE.pop (hf_c (a := false) rfl trivial) h
      ·
        refine uNext ?_
        refine st_if hE (ht_and_pp (ht_tt (hf_pp hr_lt (hf_c (a := (0 : Int)) rfl trivial) (hf_var rfl))) (ht_and_pp (ht_tt (hf_pp hr_le (hf_var rfl) (hf_is (m := (powI (10 : Int) (18 : Int))) (m' := .ok (1000000000000000000 : Int)) (hf_pp hr_pow (hf_c (a := (10 : Int)) rfl trivial) (hf_c (a := (18 : Int)) rfl trivial)) (by decide +kernel)))) (ht_or_pp (ht_tt (hf_pp hr_eqI (hf_var rfl) (hf_var rfl))) (ht_tt (hf_pp hr_le (hf_var rfl) (hf_var rfl)))))) h (fun h => ?_) (fun h => ?_)
        ·
          refine uFor (uList (uLst (uCons ?_)))
          refine st_push hE (hf_c (a := (0 : Int)) rfl trivial) fun hE => ?_
          refine uCons ?_
          refine st_push hE (hf_pp hr_sub (hf_var rfl) (hf_c (a := (1 : Int)) rfl trivial)) fun hE => ?_
          refine uCons ?_
          refine st_pushm hE (hf_pp hr_mod (hf_c1p hc_int (hf_var rfl)) (hf_var rfl)) h fun t5 hE h => ?_
          refine uCons ?_
          refine st_pushm hE (hf_pp hr_mod (hf_c1p hc_int (hf_var rfl)) (hf_c2p hc_min (hf_var rfl) (hf_pp hr_add (hf_var rfl) (hf_c (a := (7 : Int)) rfl trivial)))) h fun t6 hE h => ?_
          refine uNil ?_
          refine st_lstI (α := Int) _ [(0 : Int), (n - (1 : Int)), t5, t6] rfl (by decide : (4 : Nat) ≤ line) hE fun I H v hE => ?_
          refine it_list hE fun ja hJ => ?_
          refine st_for (α := Int) hJ (RetP K ρ Θ (fun b => .im b) Q) (fun (_ : Unit) => [.im (low : Int), .im (high : Int), .im (draw : Int), .im (t1 : Int), .im (most : Int), .im (lengths : (List Int)), .im (n : Int), .im (due : Int), .any]) hE ⟨.inr rfl, .inr rfl, .inr rfl, .inr rfl, .inr rfl, .inr rfl, .inr rfl, .inr rfl, .inl rfl, trivial⟩ h (fun r h => h) (fun at_ s I H σ v N B hE h => ?_) (fun s I H σ hE h => ?_)
          ·
            refine st_store (Γ' := [.im (low : Int), .im (high : Int), .im (draw : Int), .im (t1 : Int), .im (most : Int), .im (lengths : (List Int)), .im (n : Int), .im (due : Int), .im (at_ : Int)]) hE rfl (by decide : (8 : Nat) < 9) fun σ hE => ?_
            refine uIf (uNot (uB (uCallS (uCons (uCallS (uCons (uLst (uCons ?_))))))))
            refine st_push hE (hf_var rfl) fun hE => ?_
            refine uCons ?_
            refine st_push hE (hf_var rfl) fun hE => ?_
            refine uNil ?_
            refine st_lstI (α := Int) _ [low, high] rfl (by decide : (2 : Nat) ≤ line) hE fun I H v hE => ?_
            replace hE := hE.listSeq
            refine uCons ?_
            refine st_push hE (hf_var rfl) fun hE => ?_
            refine uCons ?_
            refine st_push hE (hf_var rfl) fun hE => ?_
            refine uNil ?_
            refine st_call ((SeqL.mk [low, high]), n, at_) hE rfl rfl h (fun e x I' H' cls d hm z => x _ H' cls d hm z.clear.nip.nip) fun t7 I H v hE h => ?_
            refine uCons ?_
            refine st_pushm hE (hf_pp hr_mod (hf_c1p hc_int (hf_var rfl)) (hf_var rfl)) h fun t8 hE h => ?_
            refine uNil ?_
            refine st_call (t7, t8) hE rfl rfl h (fun e x I' H' cls d hm z => x _ H' cls d hm z.clear.nip.nip) fun t9 I H v hE h => ?_
            refine st_vb hE fun hE => ?_
            refine st_ite h (fun h => ?_) (fun h => ?_)
            ·
              exact st_ret hE.pop.pop (hf_c (a := false) rfl trivial) h
            ·
              refine uNext ?_
              exact h _ _ _ (hE.weak (Γ' := [.im (low : Int), .im (high : Int), .im (draw : Int), .im (t1 : Int), .im (most : Int), .im (lengths : (List Int)), .im (n : Int), .im (due : Int), .any]) ⟨.inr rfl, .inr rfl, .inr rfl, .inr rfl, .inr rfl, .inr rfl, .inr rfl, .inr rfl, .inl rfl, trivial⟩)
          exact h _ _ _ (hE.weak (Γ' := [.im (low : Int), .im (high : Int), .im (draw : Int), .im (t1 : Int), .im (most : Int), .im (lengths : (List Int)), .any, .any, .any]) ⟨.inr rfl, .inr rfl, .inr rfl, .inr rfl, .inr rfl, .inr rfl, .inl rfl, .inl rfl, .inl rfl, trivial⟩)
        ·
          refine uNext ?_
          exact h _ _ _ (hE.weak (Γ' := [.im (low : Int), .im (high : Int), .im (draw : Int), .im (t1 : Int), .im (most : Int), .im (lengths : (List Int)), .any, .any, .any]) ⟨.inr rfl, .inr rfl, .inr rfl, .inr rfl, .inr rfl, .inr rfl, .inl rfl, .inl rfl, .inl rfl, trivial⟩)
    ·
      refine uNext ?_
      refine st_if hE (ht_and_pp (ht_tt (hf_pp hr_lt (hf_c (a := (0 : Int)) rfl trivial) (hf_var rfl))) (ht_and_pp (ht_tt (hf_pp hr_le (hf_var rfl) (hf_is (m := (powI (10 : Int) (18 : Int))) (m' := .ok (1000000000000000000 : Int)) (hf_pp hr_pow (hf_c (a := (10 : Int)) rfl trivial) (hf_c (a := (18 : Int)) rfl trivial)) (by decide +kernel)))) (ht_or_pp (ht_tt (hf_pp hr_eqI (hf_var rfl) (hf_var rfl))) (ht_tt (hf_pp hr_le (hf_var rfl) (hf_var rfl)))))) h (fun h => ?_) (fun h => ?_)
      ·
        refine uFor (uList (uLst (uCons ?_)))
        refine st_push hE (hf_c (a := (0 : Int)) rfl trivial) fun hE => ?_
        refine uCons ?_
        refine st_push hE (hf_pp hr_sub (hf_var rfl) (hf_c (a := (1 : Int)) rfl trivial)) fun hE => ?_
        refine uCons ?_
        refine st_pushm hE (hf_pp hr_mod (hf_c1p hc_int (hf_var rfl)) (hf_var rfl)) h fun t11 hE h => ?_
        refine uCons ?_
        refine st_pushm hE (hf_pp hr_mod (hf_c1p hc_int (hf_var rfl)) (hf_c2p hc_min (hf_var rfl) (hf_pp hr_add (hf_var rfl) (hf_c (a := (7 : Int)) rfl trivial)))) h fun t12 hE h => ?_
        refine uNil ?_
        refine st_lstI (α := Int) _ [(0 : Int), (n - (1 : Int)), t11, t12] rfl (by decide : (4 : Nat) ≤ line) hE fun I H v hE => ?_
        refine it_list hE fun ja hJ => ?_
        refine st_for (α := Int) hJ (RetP K ρ Θ (fun b => .im b) Q) (fun (_ : Unit) => [.im (low : Int), .im (high : Int), .im (draw : Int), .im (t1 : Int), .im (most : Int), .im (lengths : (List Int)), .im (n : Int), .im (due : Int), .any]) hE ⟨.inr rfl, .inr rfl, .inr rfl, .inr rfl, .inr rfl, .inr rfl, .inr rfl, .inr rfl, .inl rfl, trivial⟩ h (fun r h => h) (fun at_ s I H σ v N B hE h => ?_) (fun s I H σ hE h => ?_)
        ·
          refine st_store (Γ' := [.im (low : Int), .im (high : Int), .im (draw : Int), .im (t1 : Int), .im (most : Int), .im (lengths : (List Int)), .im (n : Int), .im (due : Int), .im (at_ : Int)]) hE rfl (by decide : (8 : Nat) < 9) fun σ hE => ?_
          refine uIf (uNot (uB (uCallS (uCons (uCallS (uCons (uLst (uCons ?_))))))))
          refine st_push hE (hf_var rfl) fun hE => ?_
          refine uCons ?_
          refine st_push hE (hf_var rfl) fun hE => ?_
          refine uNil ?_
          refine st_lstI (α := Int) _ [low, high] rfl (by decide : (2 : Nat) ≤ line) hE fun I H v hE => ?_
          replace hE := hE.listSeq
          refine uCons ?_
          refine st_push hE (hf_var rfl) fun hE => ?_
          refine uCons ?_
          refine st_push hE (hf_var rfl) fun hE => ?_
          refine uNil ?_
          refine st_call ((SeqL.mk [low, high]), n, at_) hE rfl rfl h (fun e x I' H' cls d hm z => x _ H' cls d hm z.clear.nip.nip) fun t13 I H v hE h => ?_
          refine uCons ?_
          refine st_pushm hE (hf_pp hr_mod (hf_c1p hc_int (hf_var rfl)) (hf_var rfl)) h fun t14 hE h => ?_
          refine uNil ?_
          refine st_call (t13, t14) hE rfl rfl h (fun e x I' H' cls d hm z => x _ H' cls d hm z.clear.nip.nip) fun t15 I H v hE h => ?_
          refine st_vb hE fun hE => ?_
          refine st_ite h (fun h => ?_) (fun h => ?_)
          ·
            exact st_ret hE.pop.pop (hf_c (a := false) rfl trivial) h
          ·
            refine uNext ?_
            exact h _ _ _ (hE.weak (Γ' := [.im (low : Int), .im (high : Int), .im (draw : Int), .im (t1 : Int), .im (most : Int), .im (lengths : (List Int)), .im (n : Int), .im (due : Int), .any]) ⟨.inr rfl, .inr rfl, .inr rfl, .inr rfl, .inr rfl, .inr rfl, .inr rfl, .inr rfl, .inl rfl, trivial⟩)
        exact h _ _ _ (hE.weak (Γ' := [.im (low : Int), .im (high : Int), .im (draw : Int), .im (t1 : Int), .im (most : Int), .im (lengths : (List Int)), .any, .any, .any]) ⟨.inr rfl, .inr rfl, .inr rfl, .inr rfl, .inr rfl, .inr rfl, .inl rfl, .inl rfl, .inl rfl, trivial⟩)
      ·
        refine uNext ?_
        exact h _ _ _ (hE.weak (Γ' := [.im (low : Int), .im (high : Int), .im (draw : Int), .im (t1 : Int), .im (most : Int), .im (lengths : (List Int)), .any, .any, .any]) ⟨.inr rfl, .inr rfl, .inr rfl, .inr rfl, .inr rfl, .inr rfl, .inl rfl, .inl rfl, .inl rfl, trivial⟩)
  exact st_ret hE (hf_c (a := true) rfl trivial) h

theorem ok_law_told (T : Txt Pg w K mg) : FnOk Pg w K mg base (L2N.CX Pg w) 6 T.a_law_told T.d_law_told ["which", "periods", "length", "place"] (SpM K mg 4 (fun (a : Int × (SeqL Int) × Int × Int) => [.im a.1, .im a.2.1, .im a.2.2.1, .im a.2.2.2]) (fun a => m_law_told a.1 a.2.1 a.2.2.1 a.2.2.2) (fun b => .im b)) := by
  refine okN T.F_law_told sc_law_told (fun vs H Q E h => h.1) fun cdv A outer s H vs Q E hr h => ?_
  obtain ⟨hl, ⟨which, periods, length, place⟩, I, ρ, Θ, hE, h⟩ := h
  have hE : Env K I H (start N_law_told vs) [.im (which : Int), .im (periods : (SeqL Int)), .im (length : Int), .im (place : Int), .any, .any, .any, .any] ρ Θ := st_start hE (by rw [hl]; first | rfl | done)
  refine ⟨_, (pss_one (ps_tryG (i := 4) rfl rfl sc_law_told.nd rfl rfl ⟨rfl, by decide, .inl T.gC_WordError⟩ (fun W pn xe tk hp => (pss_cons (ps_if (pt_cmpR op_eq (pv 0) pe_int (nomark _)) (pss_one (ps_ret (pe_tup (pa_cons pe_str (pa_cons (pe_callS (ok_class_count (base := base) T) (hr.mono (by decide)) (by rfl) T.g_class_count T.F_class_count.kp T.b_class_count (fun σ => L2N.passAt tk σ) (pa_cons (pv 1) (pa_cons (pv 2) pa_nil))) pa_nil))))) pss_nil)
      (pss_one (ps_ret (pe_tup (pa_cons pe_str (pa_cons (pe_callS (ok_class_of (base := base) T) (hr.mono (by decide)) (by rfl) T.g_class_of T.F_class_of.kp T.b_class_of (fun σ => L2N.passAt tk σ) (pa_cons (pv 1) (pa_cons (pv 2) (pa_cons (pv 3) pa_nil)))) pa_nil))))))) (fun a oe cls d pn hz hf => (pss_cons (ps_set (i := 5) sc_law_told.nd rfl (.inl rfl) (pe_callB (call_isX hz.zc hf) (by rfl) T.z_isinstance (by decide +kernel) (pa_cons (pv 4) (pa_cons (pe_glob (v := .ref T.C_TooMany) (by rfl) T.gC_TooMany rfl) pa_nil))))
      (pss_cons (ps_set (i := 6) sc_law_told.nd rfl (.inl rfl) (pe_callB (call_isX hz.zc hf) (by rfl) T.z_isinstance (by decide +kernel) (pa_cons (pv 4) (pa_cons (pe_glob (v := .ref T.C_OutOfBounds) (by rfl) T.gC_OutOfBounds rfl) pa_nil))))
      (pss_cons (ps_set (i := 7) sc_law_told.nd rfl (.inl rfl) (pe_callB (call_isX hz.zc hf) (by rfl) T.z_isinstance (by decide +kernel) (pa_cons (pv 4) (pa_cons (pe_glob (v := .ref T.C_NoPeriod) (by rfl) T.gC_NoPeriod rfl) pa_nil))))
      (pss_cons (ps_if (pt_not (pt_val (pe_callB (call_isX hz.zc hf) (by rfl) T.z_isinstance (by decide +kernel) (pa_cons (pv 4) (pa_cons (pe_bltn (v := .ty "ValueError") (by rfl) T.z_ValueError (by decide +kernel) rfl) pa_nil))))) (pss_one (ps_ret (pe_tup (pa_cons pe_str (pa_cons pe_int pa_nil))))) pss_nil)
      (pss_cons (ps_if (PW.pt (pw_and (pt_val (pv 5)) (pw_and (pt_not (pt_val (pv 6))) (pw_and1 (pt_not (pt_val (pv 7))))))) (pss_one (ps_ret (pe_tup (pa_cons pe_str (pa_cons (pe_xf (T.x_TooMany (base := base)).xf (T.x_TooMany (base := base)).no hz.zc hf (pv 4)) pa_nil))))) pss_nil)
      (pss_cons (ps_if (PW.pt (pw_and (pt_val (pv 6)) (pw_and (pt_not (pt_val (pv 5))) (pw_and1 (pt_not (pt_val (pv 7))))))) (pss_one (ps_ret (pe_tup (pa_cons pe_str (pa_cons (pe_xf (T.x_OutOfBounds (base := base)).xf (T.x_OutOfBounds (base := base)).no hz.zc hf (pv 4)) pa_nil))))) pss_nil)
      (pss_cons (ps_if (PW.pt (pw_and (pt_val (pv 7)) (pw_and (pt_not (pt_val (pv 5))) (pw_and1 (pt_not (pt_val (pv 6))))))) (pss_one (ps_ret (pe_tup (pa_cons pe_str (pa_cons pe_int pa_nil))))) pss_nil)
      (pss_one (ps_ret (pe_tup (pa_cons pe_str (pa_cons pe_int pa_nil))))))))))))))), ?_⟩
  generalize start N_law_told vs = σ at hE ⊢
  change wp (m_law_told which periods length place) _ _ at h
  unfold m_law_told at h
  refine st_try (mg := mg) (i := 4) [.im (which : Int), .im (periods : (SeqL Int)), .im (length : Int), .im (place : Int), .any, .any, .any, .any] (RetP K ρ Θ (fun b => .im b) Q) (fun (_ : Unit) => [.im (which : Int), .im (periods : (SeqL Int)), .im (length : Int), .im (place : Int), .any, .any, .any, .any]) hE (by decide : (4 : Nat) < 8) h (fun r h => h) (fun s I H σ hE h => ?_) (fun e h => ?_) (fun xe1 h I H σ xa1 xd1 xc1 xm1 hE => ?_) (fun hC1 h => ?_)
  rotate_left 1
  ·
    exact exm_all (kn_WordError_ok T (wp_knT h))
  ·
    replace h := wp_kn h
    replace hE : Env K _ _ _ [.im (which : Int), .im (periods : (SeqL Int)), .im (length : Int), .im (place : Int), .im ((⟨xa1, xd1, xe1⟩ : ExV) : ExV), .any, .any, .any] _ _ := hE
    refine uSeq ?_
    refine st_setm (Γ' := fun (many : Bool) => [.im (which : Int), .im (periods : (SeqL Int)), .im (length : Int), .im (place : Int), .im ((⟨xa1, xd1, xe1⟩ : ExV) : ExV), .im (many : Bool), .any, .any]) hE (hf_isX (hΓ := rfl) (fun _ h => h) (is_TooMany_ok T xm1)) h (fun _ => rfl) (by decide : (5 : Nat) < 8) fun many σ hE h => ?_
    refine uSeq ?_
    refine st_setm (Γ' := fun (beyond : Bool) => [.im (which : Int), .im (periods : (SeqL Int)), .im (length : Int), .im (place : Int), .im ((⟨xa1, xd1, xe1⟩ : ExV) : ExV), .im (many : Bool), .im (beyond : Bool), .any]) hE (hf_isX (hΓ := rfl) (fun _ h => h) (is_OutOfBounds_ok T xm1)) h (fun _ => rfl) (by decide : (6 : Nat) < 8) fun beyond σ hE h => ?_
    refine uSeq ?_
    refine st_setm (Γ' := fun (none : Bool) => [.im (which : Int), .im (periods : (SeqL Int)), .im (length : Int), .im (place : Int), .im ((⟨xa1, xd1, xe1⟩ : ExV) : ExV), .im (many : Bool), .im (beyond : Bool), .im (none : Bool)]) hE (hf_isX (hΓ := rfl) (fun _ h => h) (is_NoPeriod_ok T xm1)) h (fun _ => rfl) (by decide : (7 : Nat) < 8) fun none σ hE h => ?_
    refine uSeq ?_
    refine st_ifm hE (ht_not_m (ht_B (hf_isX (hΓ := rfl) (fun _ h => h) (is_ValueError_ok T xm1)))) h (fun h => ?_) (fun h => ?_)
    ·
      refine uRet (uTpl (uCons ?_))
      refine st_push hE (hf_c (a := ([111, 116, 104, 101, 114] : Tx)) (by decide +kernel) (by decide : (5 : Nat) ≤ line)) fun hE => ?_
      refine uCons ?_
      refine st_push hE (hf_c (a := (0 : Int)) rfl trivial) fun hE => ?_
      refine uNil ?_
      refine st_tup2 hE fun I H v hE => ?_
      exact h _ _ _ hE.clear
    ·
      refine uNext (uSeq ?_)
      refine st_if hE (ht_and_pp (ht_B (hf_var rfl)) (ht_and_pp (ht_not_p (ht_B (hf_var rfl))) (ht_not_p (ht_B (hf_var rfl))))) h (fun h => ?_) (fun h => ?_)
      ·
        refine uRet (uTpl (uCons ?_))
        refine st_push hE (hf_c (a := ([109, 97, 110, 121] : Tx)) (by decide +kernel) (by decide : (4 : Nat) ≤ line)) fun hE => ?_
        refine uCons ?_
        refine st_pushm hE (hf_fldI (hΓ := rfl) xm1 (T.x_TooMany (base := base)).gC) h fun t5 hE h => ?_
        refine uNil ?_
        refine st_tup2 hE fun I H v hE => ?_
        exact h _ _ _ hE.clear
      ·
        refine uNext (uSeq ?_)
        refine st_if hE (ht_and_pp (ht_B (hf_var rfl)) (ht_and_pp (ht_not_p (ht_B (hf_var rfl))) (ht_not_p (ht_B (hf_var rfl))))) h (fun h => ?_) (fun h => ?_)
        ·
          refine uRet (uTpl (uCons ?_))
          refine st_push hE (hf_c (a := ([98, 101, 121, 111, 110, 100] : Tx)) (by decide +kernel) (by decide : (6 : Nat) ≤ line)) fun hE => ?_
          refine uCons ?_
          refine st_pushm hE (hf_fldI (hΓ := rfl) xm1 (T.x_OutOfBounds (base := base)).gC) h fun t6 hE h => ?_
          refine uNil ?_
          refine st_tup2 hE fun I H v hE => ?_
          exact h _ _ _ hE.clear
        ·
          refine uNext (uSeq ?_)
          refine st_if hE (ht_and_pp (ht_B (hf_var rfl)) (ht_and_pp (ht_not_p (ht_B (hf_var rfl))) (ht_not_p (ht_B (hf_var rfl))))) h (fun h => ?_) (fun h => ?_)
          ·
            refine uRet (uTpl (uCons ?_))
            refine st_push hE (hf_c (a := ([110, 111, 110, 101] : Tx)) (by decide +kernel) (by decide : (4 : Nat) ≤ line)) fun hE => ?_
            refine uCons ?_
            refine st_push hE (hf_c (a := (0 : Int)) rfl trivial) fun hE => ?_
            refine uNil ?_
            refine st_tup2 hE fun I H v hE => ?_
            exact h _ _ _ hE.clear
          ·
            refine uNext (uRet (uTpl (uCons ?_)))
            refine st_push hE (hf_c (a := ([111, 116, 104, 101, 114] : Tx)) (by decide +kernel) (by decide : (5 : Nat) ≤ line)) fun hE => ?_
            refine uCons ?_
            refine st_push hE (hf_c (a := (0 : Int)) rfl trivial) fun hE => ?_
            refine uNil ?_
            refine st_tup2 hE fun I H v hE => ?_
            exact h _ _ _ hE.clear
  ·
    refine uSeq ?_
    refine st_if hE (ht_tt (hf_pp hr_eqI (hf_var rfl) (hf_c (a := (0 : Int)) rfl trivial))) h (fun h => ?_) (fun h => ?_)
    ·
      refine uRet (uTpl (uCons ?_))
      refine st_push hE (hf_c (a := ([116, 111, 108, 100] : Tx)) (by decide +kernel) (by decide : (4 : Nat) ≤ line)) fun hE => ?_
      refine uCons (uCallS (uCons ?_))
      refine st_var hE (i := 1) rfl fun v hE => ?_
      refine uCons ?_
      refine st_push hE (hf_var rfl) fun hE => ?_
      refine uNil ?_
      refine st_call (periods, length) hE rfl rfl h (fun e x I' H' cls d hm z => hC1 e x _ _ H' cls d hm (Env.weak (Γ' := [.im (which : Int), .im (periods : (SeqL Int)), .im (length : Int), .im (place : Int), .any, .any, .any, .any]) z.nip ⟨.inr rfl, .inr rfl, .inr rfl, .inr rfl, .inl rfl, .inl rfl, .inl rfl, .inl rfl, trivial⟩)) fun t2 I H v hE h => ?_
      refine uNil ?_
      refine st_tup2 hE fun I H v hE => ?_
      exact h _ _ _ hE.clear
    ·
      refine uNext (uRet (uTpl (uCons ?_)))
      refine st_push hE (hf_c (a := ([116, 111, 108, 100] : Tx)) (by decide +kernel) (by decide : (4 : Nat) ≤ line)) fun hE => ?_
      refine uCons (uCallS (uCons ?_))
      refine st_var hE (i := 1) rfl fun v hE => ?_
      refine uCons ?_
      refine st_push hE (hf_var rfl) fun hE => ?_
      refine uCons ?_
      refine st_push hE (hf_var rfl) fun hE => ?_
      refine uNil ?_
      refine st_call (periods, length, place) hE rfl rfl h (fun e x I' H' cls d hm z => hC1 e x _ _ H' cls d hm (Env.weak (Γ' := [.im (which : Int), .im (periods : (SeqL Int)), .im (length : Int), .im (place : Int), .any, .any, .any, .any]) z.nip ⟨.inr rfl, .inr rfl, .inr rfl, .inr rfl, .inl rfl, .inl rfl, .inl rfl, .inl rfl, trivial⟩)) fun t3 I H v hE h => ?_
      refine uNil ?_
      refine st_tup2 hE fun I H v hE => ?_
      exact h _ _ _ hE.clear
  exact h.elim

theorem ok_law_refused (T : Txt Pg w K mg) : FnOk Pg w K mg base (L2N.CX Pg w) 2 T.a_law_refused T.d_law_refused ["told", "kind", "due"] (SpM K mg 3 (fun (a : (Tx × Int) × Tx × Int) => [.im a.1, .im a.2.1, .im a.2.2]) (fun a => m_law_refused a.1 a.2.1 a.2.2) (fun b => .im b)) := by
  refine okN T.F_law_refused sc_law_refused (fun vs H Q E h => h.1) fun cdv A outer s H vs Q E hr h => ?_
  obtain ⟨hl, ⟨told, kind, due⟩, I, ρ, Θ, hE, h⟩ := h
  have hE : Env K I H (start N_law_refused vs) [.im (told : (Tx × Int)), .im (kind : Tx), .im (due : Int)] ρ Θ := st_start hE (by rw [hl]; first | rfl | done)
  refine ⟨_, (pss_one (ps_ret (pe_and (pe_cmpR op_eq (pe_ix ix_tup (pv 0) pe_int (fun _ _ => rfl)) (pv 1) (nomark _)) (pe_one (pe_callS (ok_law_number (base := base) T) (hr.mono (by decide)) (by rfl) T.g_law_number T.F_law_number.kp T.b_law_number (fun σ => L2N.passAt (L2N.takes_of rfl rfl rfl rfl) σ) (pa_cons (pe_ix ix_tup (pv 0) pe_int (fun _ _ => rfl)) (pa_cons (pv 2) pa_nil))))))), ?_⟩
  generalize start N_law_refused vs = σ at hE ⊢
  change wp (m_law_refused told kind due) _ _ at h
  unfold m_law_refused at h
  refine uRet (uAndV ?_)
  refine st_push hE (hf_pp hr_eqT (hf_ixP0 (hΓ := rfl)) (hf_var rfl)) fun hE => ?_
  refine st_vb hE fun hE => ?_
  refine st_ite h (fun h => ?_) (fun h => ?_)
  ·
    refine uCallS (uCons ?_)
    refine st_push hE (hf_ixP1 (hΓ := rfl)) fun hE => ?_
    refine uCons ?_
    refine st_push hE (hf_var rfl) fun hE => ?_
    refine uNil ?_
    refine st_call (told.2, due) hE rfl rfl h (fun e x I' H' cls d hm z => x _ H' cls d hm z.clear) fun t1 I H v hE h => ?_
    exact h _ _ _ hE.clear
  ·
    exact h _ _ _ ((hE.pushS (α := Bool) (a := false) trivial).clear)

theorem ok_law_refusals (T : Txt Pg w K mg) : FnOk Pg w K mg base (L2N.CX Pg w) 7 T.a_law_refusals T.d_law_refusals ["periods", "at", "bad", "length", "n"] (SpM K mg 5 (fun (a : (List Int) × Int × Int × Int × Int) => [.im a.1, .im a.2.1, .im a.2.2.1, .im a.2.2.2.1, .im a.2.2.2.2]) (fun a => m_law_refusals a.1 a.2.1 a.2.2.1 a.2.2.2.1 a.2.2.2.2) (fun b => .im b)) := by
  refine okN T.F_law_refusals sc_law_refusals (fun vs H Q E h => h.1) fun cdv A outer s H vs Q E hr h => ?_
  obtain ⟨hl, ⟨periods, at_, bad, length, n⟩, I, ρ, Θ, hE, h⟩ := h
  have hE : Env K I H (start N_law_refusals vs) [.im (periods : (List Int)), .im (at_ : Int), .im (bad : Int), .im (length : Int), .im (n : Int), .any, .any, .any] ρ Θ := st_start hE (by rw [hl]; first | rfl | done)
  refine ⟨_, (pss_cons (ps_set (i := 5) sc_law_refusals.nd rfl (.inl rfl) (pe_op op_cat (pe_op op_cat (pe_slice sl_list (pv 0) po_none (po_some (pv 1))) (pe_lst (pa_cons (pv 2) pa_nil))) (pe_slice sl_list (pv 0) (po_some (pe_op op_add (pv 1) pe_int)) po_none)))
      (pss_cons (ps_for (passes_of rfl) rfl (pi_range1 (by rfl) T.z_range (pa_cons pe_int pa_nil)) (pg_name (i := 6) sc_law_refusals.nd rfl (.inl rfl)) (pss_cons (ps_if (pt_not (pt_val (pe_callS (ok_law_refused (base := base) T) (hr.mono (by decide)) (by rfl) T.g_law_refused T.F_law_refused.kp T.b_law_refused (fun σ => L2N.passAt (L2N.takes_of rfl rfl rfl rfl) σ) (pa_cons (pe_callS (ok_law_told (base := base) T) (hr.mono (by decide)) (by rfl) T.g_law_told T.F_law_told.kp T.b_law_told (fun σ => L2N.passAt (L2N.takes_of rfl rfl rfl rfl) σ) (pa_cons (pv 6) (pa_cons (pe_lstOf (K := K) rfl (by rfl) T.z_list (by decide +kernel) (pa_cons (pv 5) pa_nil)) (pa_cons (pv 3) (pa_cons (pv 4) pa_nil))))) (pa_cons pe_str (pa_cons (pv 2) pa_nil)))))) (pss_one (ps_ret pe_bl)) pss_nil)
      (pss_cons (ps_if (pt_not (pt_val (pe_callS (ok_law_refused (base := base) T) (hr.mono (by decide)) (by rfl) T.g_law_refused T.F_law_refused.kp T.b_law_refused (fun σ => L2N.passAt (L2N.takes_of rfl rfl rfl rfl) σ) (pa_cons (pe_callS (ok_law_told (base := base) T) (hr.mono (by decide)) (by rfl) T.g_law_told T.F_law_told.kp T.b_law_told (fun σ => L2N.passAt (L2N.takes_of rfl rfl rfl rfl) σ) (pa_cons (pv 6) (pa_cons (pe_slice sl_list (pe_op op_rep (pv 5) pe_int) po_none (po_some pe_int)) (pa_cons (pv 3) (pa_cons (pv 4) pa_nil))))) (pa_cons pe_str (pa_cons pe_int pa_nil)))))) (pss_one (ps_ret pe_bl)) pss_nil)
      (pss_cons (ps_if (pt_not (pt_val (pe_callS (ok_law_refused (base := base) T) (hr.mono (by decide)) (by rfl) T.g_law_refused T.F_law_refused.kp T.b_law_refused (fun σ => L2N.passAt (L2N.takes_of rfl rfl rfl rfl) σ) (pa_cons (pe_callS (ok_law_told (base := base) T) (hr.mono (by decide)) (by rfl) T.g_law_told T.F_law_told.kp T.b_law_told (fun σ => L2N.passAt (L2N.takes_of rfl rfl rfl rfl) σ) (pa_cons (pv 6) (pa_cons (pe_lstOf (K := K) rfl (by rfl) T.z_list (by decide +kernel) (pa_cons (pv 0) pa_nil)) (pa_cons (pv 3) (pa_cons (pv 4) pa_nil))))) (pa_cons pe_str (pa_cons (pv 3) pa_nil)))))) (pss_one (ps_ret pe_bl)) pss_nil)
      (pss_cons (ps_if (pt_not (pt_val (pe_callS (ok_law_refused (base := base) T) (hr.mono (by decide)) (by rfl) T.g_law_refused T.F_law_refused.kp T.b_law_refused (fun σ => L2N.passAt (L2N.takes_of rfl rfl rfl rfl) σ) (pa_cons (pe_callS (ok_law_told (base := base) T) (hr.mono (by decide)) (by rfl) T.g_law_told T.F_law_told.kp T.b_law_told (fun σ => L2N.passAt (L2N.takes_of rfl rfl rfl rfl) σ) (pa_cons (pv 6) (pa_cons (pe_lst pa_nil) (pa_cons (pv 3) (pa_cons pe_int pa_nil))))) (pa_cons pe_str (pa_cons (pv 3) pa_nil)))))) (pss_one (ps_ret pe_bl)) pss_nil)
      (pss_one (ps_if (pt_not (pt_val (pe_callS (ok_law_refused (base := base) T) (hr.mono (by decide)) (by rfl) T.g_law_refused T.F_law_refused.kp T.b_law_refused (fun σ => L2N.passAt (L2N.takes_of rfl rfl rfl rfl) σ) (pa_cons (pe_callS (ok_law_told (base := base) T) (hr.mono (by decide)) (by rfl) T.g_law_told T.F_law_told.kp T.b_law_told (fun σ => L2N.passAt (L2N.takes_of rfl rfl rfl rfl) σ) (pa_cons (pv 6) (pa_cons (pe_lst pa_nil) (pa_cons pe_int (pa_cons pe_int pa_nil))))) (pa_cons pe_str (pa_cons pe_int pa_nil)))))) (pss_one (ps_ret pe_bl)) pss_nil)))))))
      (pss_cons (ps_for (passes_of rfl) rfl (pi_list (pe_lst (pa_cons (pv 4) (pa_cons (pe_un un_neg pe_int) (pa_cons (pe_op op_add (pe_op op_powW pe_int pe_int) pe_int) pa_nil))))) (pg_name (i := 7) sc_law_refusals.nd rfl (.inl rfl)) (pss_cons (ps_if (pt_not (pt_val (pe_callS (ok_law_refused (base := base) T) (hr.mono (by decide)) (by rfl) T.g_law_refused T.F_law_refused.kp T.b_law_refused (fun σ => L2N.passAt (L2N.takes_of rfl rfl rfl rfl) σ) (pa_cons (pe_callS (ok_law_told (base := base) T) (hr.mono (by decide)) (by rfl) T.g_law_told T.F_law_told.kp T.b_law_told (fun σ => L2N.passAt (L2N.takes_of rfl rfl rfl rfl) σ) (pa_cons pe_int (pa_cons (pe_lstOf (K := K) rfl (by rfl) T.z_list (by decide +kernel) (pa_cons (pv 0) pa_nil)) (pa_cons (pv 4) (pa_cons (pv 7) pa_nil))))) (pa_cons pe_str (pa_cons (pv 7) pa_nil)))))) (pss_one (ps_ret pe_bl)) pss_nil)
      (pss_one (ps_if (pt_not (pt_val (pe_callS (ok_law_refused (base := base) T) (hr.mono (by decide)) (by rfl) T.g_law_refused T.F_law_refused.kp T.b_law_refused (fun σ => L2N.passAt (L2N.takes_of rfl rfl rfl rfl) σ) (pa_cons (pe_callS (ok_law_told (base := base) T) (hr.mono (by decide)) (by rfl) T.g_law_told T.F_law_told.kp T.b_law_told (fun σ => L2N.passAt (L2N.takes_of rfl rfl rfl rfl) σ) (pa_cons pe_int (pa_cons (pe_lst pa_nil) (pa_cons (pv 4) (pa_cons (pv 7) pa_nil))))) (pa_cons pe_str (pa_cons (pv 7) pa_nil)))))) (pss_one (ps_ret pe_bl)) pss_nil))))
      (pss_one (ps_ret (pe_callS (ok_law_refused (base := base) T) (hr.mono (by decide)) (by rfl) T.g_law_refused T.F_law_refused.kp T.b_law_refused (fun σ => L2N.passAt (L2N.takes_of rfl rfl rfl rfl) σ) (pa_cons (pe_callS (ok_law_told (base := base) T) (hr.mono (by decide)) (by rfl) T.g_law_told T.F_law_told.kp T.b_law_told (fun σ => L2N.passAt (L2N.takes_of rfl rfl rfl rfl) σ) (pa_cons pe_int (pa_cons (pe_lst pa_nil) (pa_cons pe_int (pa_cons pe_int pa_nil))))) (pa_cons pe_str (pa_cons pe_int pa_nil))))))))), ?_⟩
  generalize start N_law_refusals vs = σ at hE ⊢
  change wp (m_law_refusals periods at_ bad length n) _ _ at h
  unfold m_law_refusals at h
  refine uSeq (uAsg (uOp (uOp (uSl ?_))))
  refine st_var hE (i := 0) rfl fun v hE => ?_
  refine st_bdp hE ho_none ?_
  refine st_bdp hE (ho_p (hf_var rfl)) ?_
  refine st_slL hE fun I H v hE => ?_
  refine uLst (uCons ?_)
  refine st_push hE (hf_var rfl) fun hE => ?_
  refine uNil ?_
  refine st_lstI (α := Int) _ [bad] rfl (by decide : (1 : Nat) ≤ line) hE fun I H v hE => ?_
  refine st_catI hE h fun t1 I H v hE h => ?_
  refine uSl ?_
  refine st_var hE (i := 0) rfl fun v hE => ?_
  refine st_bdp hE (ho_p (hf_pp hr_add (hf_var rfl) (hf_c (a := (1 : Int)) rfl trivial))) ?_
  refine st_bdp hE ho_none ?_
  refine st_slL hE fun I H v hE => ?_
  refine st_catI hE h fun t2 I H v hE h => ?_
  refine st_store (Γ' := [.im (periods : (List Int)), .im (at_ : Int), .im (bad : Int), .im (length : Int), .im (n : Int), .im (t2 : (List Int)), .any, .any]) hE rfl (by decide : (5 : Nat) < 8) fun σ hE => ?_
  refine uSeq (uFor ?_)
  refine it_rng1 hE (hf_c (a := (2 : Int)) rfl trivial) h fun xs3 h J hJ => ?_
  refine st_for (α := Int) hJ (RetP K ρ Θ (fun b => .im b) Q) (fun (_ : Unit) => [.im (periods : (List Int)), .im (at_ : Int), .im (bad : Int), .im (length : Int), .im (n : Int), .im (t2 : (List Int)), .any, .any]) hE ⟨.inr rfl, .inr rfl, .inr rfl, .inr rfl, .inr rfl, .inr rfl, .inl rfl, .inl rfl, trivial⟩ h (fun r h => h) (fun which s I H σ v N B hE h => ?_) (fun s I H σ hE h => ?_)
  ·
    refine st_store (Γ' := [.im (periods : (List Int)), .im (at_ : Int), .im (bad : Int), .im (length : Int), .im (n : Int), .im (t2 : (List Int)), .im (which : Int), .any]) hE rfl (by decide : (6 : Nat) < 8) fun σ hE => ?_
    refine uSeq (uIf (uNot (uB (uCallS (uCons (uCallS (uCons ?_)))))))
    refine st_push hE (hf_var rfl) fun hE => ?_
    refine uCons (uCB (uCons ?_))
    refine st_var hE (i := 5) rfl fun v hE => ?_
    refine uNil ?_
    refine st_listI hE fun I H v hE => ?_
    replace hE := hE.listSeq
    refine uCons ?_
    refine st_push hE (hf_var rfl) fun hE => ?_
    refine uCons ?_
    refine st_push hE (hf_var rfl) fun hE => ?_
    refine uNil ?_
    refine st_call (which, (SeqL.mk t2), length, n) hE rfl rfl h (fun e x I' H' cls d hm z => x _ H' cls d hm z.clear) fun t4 I H v hE h => ?_
    refine uCons ?_
    refine st_push hE (hf_c (a := ([98, 101, 121, 111, 110, 100] : Tx)) (by decide +kernel) (by decide : (6 : Nat) ≤ line)) fun hE => ?_
    refine uCons ?_
    refine st_push hE (hf_var rfl) fun hE => ?_
    refine uNil ?_
    refine st_call (t4, ([98, 101, 121, 111, 110, 100] : Tx), bad) hE rfl rfl h (fun e x I' H' cls d hm z => x _ H' cls d hm z.clear) fun t5 I H v hE h => ?_
    refine st_vb hE fun hE => ?_
    refine st_ite h (fun h => ?_) (fun h => ?_)
    ·
      exact st_ret hE (hf_c (a := false) rfl trivial) h
    ·
      refine uNext (uSeq (uIf (uNot (uB (uCallS (uCons (uCallS (uCons ?_))))))))
      refine st_push hE (hf_var rfl) fun hE => ?_
      refine uCons (uSl (uOp ?_))
      refine st_var hE (i := 5) rfl fun v hE => ?_
      refine st_push hE (hf_c (a := (7 : Int)) rfl trivial) fun hE => ?_
      refine st_repI hE h fun t6 I H v hE h => ?_
      refine st_bdp hE ho_none ?_
      refine st_bdp hE (ho_p (hf_c (a := (7 : Int)) rfl trivial)) ?_
      refine st_slL hE fun I H v hE => ?_
      replace hE := hE.listSeq
      refine uCons ?_
      refine st_push hE (hf_var rfl) fun hE => ?_
      refine uCons ?_
      refine st_push hE (hf_var rfl) fun hE => ?_
      refine uNil ?_
      refine st_call (which, (SeqL.mk (cutL t6 none (some (7 : Int)))), length, n) hE rfl rfl h (fun e x I' H' cls d hm z => x _ H' cls d hm z.clear) fun t7 I H v hE h => ?_
      refine uCons ?_
      refine st_push hE (hf_c (a := ([109, 97, 110, 121] : Tx)) (by decide +kernel) (by decide : (4 : Nat) ≤ line)) fun hE => ?_
      refine uCons ?_
      refine st_push hE (hf_c (a := (6 : Int)) rfl trivial) fun hE => ?_
      refine uNil ?_
      refine st_call (t7, ([109, 97, 110, 121] : Tx), (6 : Int)) hE rfl rfl h (fun e x I' H' cls d hm z => x _ H' cls d hm z.clear) fun t8 I H v hE h => ?_
      refine st_vb hE fun hE => ?_
      refine st_ite h (fun h => ?_) (fun h => ?_)
      ·
        exact st_ret hE (hf_c (a := false) rfl trivial) h
      ·
        refine uNext (uSeq (uIf (uNot (uB (uCallS (uCons (uCallS (uCons ?_))))))))
        refine st_push hE (hf_var rfl) fun hE => ?_
        refine uCons (uCB (uCons ?_))
        refine st_var hE (i := 0) rfl fun v hE => ?_
        refine uNil ?_
        refine st_listI hE fun I H v hE => ?_
        replace hE := hE.listSeq
        refine uCons ?_
        refine st_push hE (hf_var rfl) fun hE => ?_
        refine uCons ?_
        refine st_push hE (hf_var rfl) fun hE => ?_
        refine uNil ?_
        refine st_call (which, (SeqL.mk periods), length, n) hE rfl rfl h (fun e x I' H' cls d hm z => x _ H' cls d hm z.clear) fun t9 I H v hE h => ?_
        refine uCons ?_
        refine st_push hE (hf_c (a := ([98, 101, 121, 111, 110, 100] : Tx)) (by decide +kernel) (by decide : (6 : Nat) ≤ line)) fun hE => ?_
        refine uCons ?_
        refine st_push hE (hf_var rfl) fun hE => ?_
        refine uNil ?_
        refine st_call (t9, ([98, 101, 121, 111, 110, 100] : Tx), length) hE rfl rfl h (fun e x I' H' cls d hm z => x _ H' cls d hm z.clear) fun t10 I H v hE h => ?_
        refine st_vb hE fun hE => ?_
        refine st_ite h (fun h => ?_) (fun h => ?_)
        ·
          exact st_ret hE (hf_c (a := false) rfl trivial) h
        ·
          refine uNext (uSeq (uIf (uNot (uB (uCallS (uCons (uCallS (uCons ?_))))))))
          refine st_push hE (hf_var rfl) fun hE => ?_
          refine uCons (uLst (uNil ?_))
          refine st_lstI (α := Int) [] [] rfl (Nat.zero_le _) hE fun I H v hE => ?_
          replace hE := hE.listSeq
          refine uCons ?_
          refine st_push hE (hf_var rfl) fun hE => ?_
          refine uCons ?_
          refine st_push hE (hf_c (a := (0 : Int)) rfl trivial) fun hE => ?_
          refine uNil ?_
          refine st_call (which, (SeqL.mk ([] : List Int)), length, (0 : Int)) hE rfl rfl h (fun e x I' H' cls d hm z => x _ H' cls d hm z.clear) fun t11 I H v hE h => ?_
          refine uCons ?_
          refine st_push hE (hf_c (a := ([98, 101, 121, 111, 110, 100] : Tx)) (by decide +kernel) (by decide : (6 : Nat) ≤ line)) fun hE => ?_
          refine uCons ?_
          refine st_push hE (hf_var rfl) fun hE => ?_
          refine uNil ?_
          refine st_call (t11, ([98, 101, 121, 111, 110, 100] : Tx), length) hE rfl rfl h (fun e x I' H' cls d hm z => x _ H' cls d hm z.clear) fun t12 I H v hE h => ?_
          refine st_vb hE fun hE => ?_
          refine st_ite h (fun h => ?_) (fun h => ?_)
          ·
            exact st_ret hE (hf_c (a := false) rfl trivial) h
          ·
            refine uNext (uIf (uNot (uB (uCallS (uCons (uCallS (uCons ?_)))))))
            refine st_push hE (hf_var rfl) fun hE => ?_
            refine uCons (uLst (uNil ?_))
            refine st_lstI (α := Int) [] [] rfl (Nat.zero_le _) hE fun I H v hE => ?_
            replace hE := hE.listSeq
            refine uCons ?_
            refine st_push hE (hf_c (a := (7 : Int)) rfl trivial) fun hE => ?_
            refine uCons ?_
            refine st_push hE (hf_c (a := (6 : Int)) rfl trivial) fun hE => ?_
            refine uNil ?_
            refine st_call (which, (SeqL.mk ([] : List Int)), (7 : Int), (6 : Int)) hE rfl rfl h (fun e x I' H' cls d hm z => x _ H' cls d hm z.clear) fun t13 I H v hE h => ?_
            refine uCons ?_
            refine st_push hE (hf_c (a := ([110, 111, 110, 101] : Tx)) (by decide +kernel) (by decide : (4 : Nat) ≤ line)) fun hE => ?_
            refine uCons ?_
            refine st_push hE (hf_c (a := (0 : Int)) rfl trivial) fun hE => ?_
            refine uNil ?_
            refine st_call (t13, ([110, 111, 110, 101] : Tx), (0 : Int)) hE rfl rfl h (fun e x I' H' cls d hm z => x _ H' cls d hm z.clear) fun t14 I H v hE h => ?_
            refine st_vb hE fun hE => ?_
            refine st_ite h (fun h => ?_) (fun h => ?_)
            ·
              exact st_ret hE (hf_c (a := false) rfl trivial) h
            ·
              refine uNext ?_
              exact h _ _ _ (hE.weak (Γ' := [.im (periods : (List Int)), .im (at_ : Int), .im (bad : Int), .im (length : Int), .im (n : Int), .im (t2 : (List Int)), .any, .any]) ⟨.inr rfl, .inr rfl, .inr rfl, .inr rfl, .inr rfl, .inr rfl, .inl rfl, .inl rfl, trivial⟩)
  refine uSeq (uFor (uList (uLst (uCons ?_))))
  refine st_push hE (hf_var rfl) fun hE => ?_
  refine uCons ?_
  refine st_push hE (hf_up hu_neg (hf_c (a := (1 : Int)) rfl trivial)) fun hE => ?_
  refine uCons ?_
  refine st_push hE (hf_is (m := (.ok ((1000000000000000000 : Int) + (1 : Int)))) (m' := .ok (1000000000000000001 : Int)) (hf_pp hr_add (hf_is (m := (powI (10 : Int) (18 : Int))) (m' := .ok (1000000000000000000 : Int)) (hf_pp hr_pow (hf_c (a := (10 : Int)) rfl trivial) (hf_c (a := (18 : Int)) rfl trivial)) (by decide +kernel)) (hf_c (a := (1 : Int)) rfl trivial)) (by decide +kernel)) fun hE => ?_
  refine uNil ?_
  refine st_lstI (α := Int) _ [n, (-(1 : Int)), (1000000000000000001 : Int)] rfl (by decide : (3 : Nat) ≤ line) hE fun I H v hE => ?_
  refine it_list hE fun ja hJ => ?_
  refine st_for (α := Int) hJ (RetP K ρ Θ (fun b => .im b) Q) (fun (_ : Unit) => [.im (periods : (List Int)), .im (at_ : Int), .im (bad : Int), .im (length : Int), .im (n : Int), .im (t2 : (List Int)), .any, .any]) hE ⟨.inr rfl, .inr rfl, .inr rfl, .inr rfl, .inr rfl, .inr rfl, .inl rfl, .inl rfl, trivial⟩ h (fun r h => h) (fun place s I H σ v N B hE h => ?_) (fun s I H σ hE h => ?_)
  ·
    refine st_store (Γ' := [.im (periods : (List Int)), .im (at_ : Int), .im (bad : Int), .im (length : Int), .im (n : Int), .im (t2 : (List Int)), .any, .im (place : Int)]) hE rfl (by decide : (7 : Nat) < 8) fun σ hE => ?_
    refine uSeq (uIf (uNot (uB (uCallS (uCons (uCallS (uCons ?_)))))))
    refine st_push hE (hf_c (a := (1 : Int)) rfl trivial) fun hE => ?_
    refine uCons (uCB (uCons ?_))
    refine st_var hE (i := 0) rfl fun v hE => ?_
    refine uNil ?_
    refine st_listI hE fun I H v hE => ?_
    replace hE := hE.listSeq
    refine uCons ?_
    refine st_push hE (hf_var rfl) fun hE => ?_
    refine uCons ?_
    refine st_push hE (hf_var rfl) fun hE => ?_
    refine uNil ?_
    refine st_call ((1 : Int), (SeqL.mk periods), n, place) hE rfl rfl h (fun e x I' H' cls d hm z => x _ H' cls d hm z.clear.nip) fun t16 I H v hE h => ?_
    refine uCons ?_
    refine st_push hE (hf_c (a := ([98, 101, 121, 111, 110, 100] : Tx)) (by decide +kernel) (by decide : (6 : Nat) ≤ line)) fun hE => ?_
    refine uCons ?_
    refine st_push hE (hf_var rfl) fun hE => ?_
    refine uNil ?_
    refine st_call (t16, ([98, 101, 121, 111, 110, 100] : Tx), place) hE rfl rfl h (fun e x I' H' cls d hm z => x _ H' cls d hm z.clear.nip) fun t17 I H v hE h => ?_
    refine st_vb hE fun hE => ?_
    refine st_ite h (fun h => ?_) (fun h => ?_)
    ·
      exact st_ret hE.pop (hf_c (a := false) rfl trivial) h
    ·
      refine uNext (uIf (uNot (uB (uCallS (uCons (uCallS (uCons ?_)))))))
      refine st_push hE (hf_c (a := (1 : Int)) rfl trivial) fun hE => ?_
      refine uCons (uLst (uNil ?_))
      refine st_lstI (α := Int) [] [] rfl (Nat.zero_le _) hE fun I H v hE => ?_
      replace hE := hE.listSeq
      refine uCons ?_
      refine st_push hE (hf_var rfl) fun hE => ?_
      refine uCons ?_
      refine st_push hE (hf_var rfl) fun hE => ?_
      refine uNil ?_
      refine st_call ((1 : Int), (SeqL.mk ([] : List Int)), n, place) hE rfl rfl h (fun e x I' H' cls d hm z => x _ H' cls d hm z.clear.nip) fun t18 I H v hE h => ?_
      refine uCons ?_
      refine st_push hE (hf_c (a := ([98, 101, 121, 111, 110, 100] : Tx)) (by decide +kernel) (by decide : (6 : Nat) ≤ line)) fun hE => ?_
      refine uCons ?_
      refine st_push hE (hf_var rfl) fun hE => ?_
      refine uNil ?_
      refine st_call (t18, ([98, 101, 121, 111, 110, 100] : Tx), place) hE rfl rfl h (fun e x I' H' cls d hm z => x _ H' cls d hm z.clear.nip) fun t19 I H v hE h => ?_
      refine st_vb hE fun hE => ?_
      refine st_ite h (fun h => ?_) (fun h => ?_)
      ·
        exact st_ret hE.pop (hf_c (a := false) rfl trivial) h
      ·
        refine uNext ?_
        exact h _ _ _ (hE.weak (Γ' := [.im (periods : (List Int)), .im (at_ : Int), .im (bad : Int), .im (length : Int), .im (n : Int), .im (t2 : (List Int)), .any, .any]) ⟨.inr rfl, .inr rfl, .inr rfl, .inr rfl, .inr rfl, .inr rfl, .inl rfl, .inl rfl, trivial⟩)
  refine uRet (uCallS (uCons (uCallS (uCons ?_))))
  refine st_push hE (hf_c (a := (0 : Int)) rfl trivial) fun hE => ?_
  refine uCons (uLst (uNil ?_))
  refine st_lstI (α := Int) [] [] rfl (Nat.zero_le _) hE fun I H v hE => ?_
  replace hE := hE.listSeq
  refine uCons ?_
  refine st_push hE (hf_c (a := (0 : Int)) rfl trivial) fun hE => ?_
  refine uCons ?_
  refine st_push hE (hf_c (a := (0 : Int)) rfl trivial) fun hE => ?_
  refine uNil ?_
  refine st_call ((0 : Int), (SeqL.mk ([] : List Int)), (0 : Int), (0 : Int)) hE rfl rfl h (fun e x I' H' cls d hm z => x _ H' cls d hm z.clear) fun t21 I H v hE h => ?_
  refine uCons ?_
  refine st_push hE (hf_c (a := ([110, 111, 110, 101] : Tx)) (by decide +kernel) (by decide : (4 : Nat) ≤ line)) fun hE => ?_
  refine uCons ?_
  refine st_push hE (hf_c (a := (0 : Int)) rfl trivial) fun hE => ?_
  refine uNil ?_
  refine st_call (t21, ([110, 111, 110, 101] : Tx), (0 : Int)) hE rfl rfl h (fun e x I' H' cls d hm z => x _ H' cls d hm z.clear) fun t22 I H v hE h => ?_
  exact h _ _ _ hE.clear

theorem ok_law (T : Txt Pg w K mg) : FnOk Pg w K mg base (L2N.CX Pg w) 8 T.a_law T.d_law ["script"] (SpM K mg 1 (fun (a : Scr) => [.im a]) (fun a => m_law a) (fun b => .im b)) := by
  refine okN T.F_law sc_law (fun vs H Q E h => h.1) fun cdv A outer s H vs Q E hr h => ?_
  obtain ⟨hl, script, I, ρ, Θ, hE, h⟩ := h
  have hE : Env K I H (start N_law vs) [.im (script : Scr), .any, .any, .any, .any, .any, .any, .any, .any, .any, .any, .any, .any, .any, .any, .any, .any, .any, .any, .any, .any, .any, .any, .any, .any] ρ Θ := st_start hE (by rw [hl]; first | rfl | done)
  refine ⟨_, (pss_cons (ps_set (i := 1) sc_law.nd rfl (.inr rfl) (pe_slice sl_list (pv 0) po_none (po_some pe_int)))
      (pss_cons (ps_set (i := 2) sc_law.nd rfl (.inl rfl) (pe_callS (ok_law_dig (base := base) T) (hr.mono (by decide)) (by rfl) T.g_law_dig T.F_law_dig.kp T.b_law_dig (fun σ => L2N.passAt (L2N.takes_of rfl rfl rfl rfl) σ) (pa_cons (pv 1) (pa_cons pe_int (pa_cons (pe_lst (pa_cons pe_int (pa_cons pe_int (pa_cons pe_int (pa_cons pe_int (pa_cons pe_int (pa_cons pe_int (pa_cons pe_int (pa_cons pe_int pa_nil))))))))) pa_nil)))))
      (pss_cons (ps_set (i := 3) sc_law.nd rfl (.inr rfl) pe_int)
      (pss_cons (ps_set (i := 4) sc_law.nd rfl (.inl rfl) (pe_ix ix_list (pv 2) pe_int (fun _ _ => rfl)))
      (pss_cons (ps_if (pt_cmpR op_eq (pe_ix ix_list (pv 2) pe_int (fun _ _ => rfl)) pe_int (nomark _)) (pss_cons (ps_set (i := 3) sc_law.nd rfl (.inr rfl) pe_int)
      (pss_one (ps_set (i := 4) sc_law.nd rfl (.inl rfl) (pe_ix ix_list (pv 2) pe_int (fun _ _ => rfl))))) pss_nil)
      (pss_cons (ps_setLc (i := 5) (own := [("k", 16)]) (g := gName 16) (by rfl) sc_law.nd rfl rfl (sw_true rfl rfl rfl (by decide +kernel)) (pi_range1 (by rfl) T.z_range (pa_cons (pe_op op_add pe_int (pe_ix ix_list (pv 2) pe_int (fun _ _ => rfl))) pa_nil)) (blkOk_by (N := N_law) (sc := defScope s_law) (by decide +kernel)) (fun _ _ _ _ _ => pg_name (i := 16) sc_law.nd rfl (.inl rfl)) (fun _ _ _ _ _ => pts_nil) (fun _ _ _ _ _ => (pe_op op_add pe_int (pe_ix (r := rIxL K) ix_list (pe_callS (ok_law_dig (base := base) T) (hr.mono (by decide)) (by rfl) T.g_law_dig T.F_law_dig.kp T.b_law_dig (fun σ => L2N.passAt takesN0 σ) (pa_cons (pv 1) (pa_cons (pe_op op_add pe_int (pv 16)) (pa_cons (pe_lst (pa_cons (pv 3) pa_nil)) pa_nil)))) pe_int (fun _ _ => rfl)))))
      (pss_cons (ps_set (i := 6) sc_law.nd rfl (.inr rfl) (pe_callS (ok_law_dig (base := base) T) (hr.mono (by decide)) (by rfl) T.g_law_dig T.F_law_dig.kp T.b_law_dig (fun σ => L2N.passAt (L2N.takes_of rfl rfl rfl rfl) σ) (pa_cons (pv 1) (pa_cons pe_int (pa_cons (pe_lst (pa_cons (pe_op op_powW pe_int pe_int) (pa_cons (pe_op op_powW pe_int pe_int) (pa_cons (pe_op op_powW pe_int pe_int) pa_nil)))) pa_nil)))))
      (pss_cons (ps_set (i := 7) sc_law.nd rfl (.inl rfl) (pe_callS (ok_law_table (base := base) T) (hr.mono (by decide)) (by rfl) T.g_law_table T.F_law_table.kp T.b_law_table (fun σ => L2N.passAt (L2N.takes_of rfl rfl rfl rfl) σ) (pa_cons (pv 5) (pa_cons (pv 4) (pa_cons pe_int (pa_cons pe_int pa_nil))))))
      (pss_cons (ps_set (i := 8) sc_law.nd rfl (.inl rfl) (pe_lstOf (K := K) rfl (by rfl) T.z_list (by decide +kernel) (pa_cons (pv 5) pa_nil)))
      (pss_cons (ps_if (pt_not (pt_val (pe_callS (ok_law_asked (base := base) T) (hr.mono (by decide)) (by rfl) T.g_law_asked T.F_law_asked.kp T.b_law_asked (fun σ => L2N.passAt (L2N.takes_of rfl rfl rfl rfl) σ) (pa_cons (pv 8) (pa_cons (pv 4) (pa_cons (pe_callS (ok_law_total (base := base) T) (hr.mono (by decide)) (by rfl) T.g_law_total T.F_law_total.kp T.b_law_total (fun σ => L2N.passAt (L2N.takes_of rfl rfl rfl rfl) σ) (pa_cons (pv 7) pa_nil)) (pa_cons (pv 7) (pa_cons (pe_lst pa_nil) (pa_cons (pv 6) pa_nil))))))))) (pss_one (ps_ret pe_bl)) pss_nil)
      (pss_cons (ps_if (pt_cmpR (op_neD hr.units) (pv 8) (pv 5) (nomark _)) (pss_one (ps_ret pe_bl)) pss_nil)
      (pss_cons (ps_set (i := 9) sc_law.nd rfl (.inl rfl) (pe_callS (ok_law_dig (base := base) T) (hr.mono (by decide)) (by rfl) T.g_law_dig T.F_law_dig.kp T.b_law_dig (fun σ => L2N.passAt (L2N.takes_of rfl rfl rfl rfl) σ) (pa_cons (pv 1) (pa_cons pe_int (pa_cons (pe_lst (pa_cons pe_int (pa_cons (pe_op op_powW pe_int pe_int) (pa_cons (pe_op op_powW pe_int pe_int) (pa_cons pe_int (pa_cons (pe_op op_powW pe_int pe_int) (pa_cons (pe_op op_powW pe_int pe_int) pa_nil))))))) pa_nil)))))
      (pss_cons (ps_set (i := 10) sc_law.nd rfl (.inl rfl) (pe_op op_add (pe_op op_add pe_int (pe_op op_mulW (pe_ix ix_list (pv 9) pe_int (fun _ _ => rfl)) (pe_op op_powW pe_int pe_int))) (pe_ix ix_list (pv 9) pe_int (fun _ _ => rfl))))
      (pss_cons (ps_set (i := 11) sc_law.nd rfl (.inr rfl) (pe_ix ix_list (pe_lst (pa_cons (pe_op op_add pe_int (pe_ix ix_list (pv 9) pe_int (fun _ _ => rfl))) (pa_cons (pe_op op_add pe_int (pe_ix ix_list (pv 9) pe_int (fun _ _ => rfl))) (pa_cons (pe_op op_add pe_int (pe_ix ix_list (pv 9) pe_int (fun _ _ => rfl))) (pa_cons (pv 10) pa_nil))))) (pe_ix ix_list (pv 2) pe_int (fun _ _ => rfl)) (fun _ _ => rfl)))
      (pss_cons (ps_set (i := 12) sc_law.nd rfl (.inl rfl) (pe_ix ix_list (pe_lst (pa_cons pe_int (pa_cons (pe_op op_mod (pe_callTy call_int1 (by rfl) T.z_int (by decide +kernel) (pa_cons (pe_ix ix_list (pv 9) pe_int (fun _ _ => rfl)) pa_nil)) (pv 11)) (pa_cons (pe_op op_mod (pe_op op_add (pe_op op_mulW (pe_ix ix_list (pv 9) pe_int (fun _ _ => rfl)) (pe_op op_powW pe_int pe_int)) (pe_ix ix_list (pv 9) pe_int (fun _ _ => rfl))) (pv 11)) pa_nil)))) (pe_ix ix_list (pv 9) pe_int (fun _ _ => rfl)) (fun _ _ => rfl)))
      (pss_cons (ps_set (i := 13) sc_law.nd rfl (.inl rfl) (pe_callS (ok_law_table (base := base) T) (hr.mono (by decide)) (by rfl) T.g_law_table T.F_law_table.kp T.b_law_table (fun σ => L2N.passAt (L2N.takes_of rfl rfl rfl rfl) σ) (pa_cons (pv 5) (pa_cons (pv 4) (pa_cons (pv 11) (pa_cons (pv 12) pa_nil))))))
      (pss_cons (ps_set (i := 14) sc_law.nd rfl (.inl rfl) (pe_callS (ok_law_total (base := base) T) (hr.mono (by decide)) (by rfl) T.g_law_total T.F_law_total.kp T.b_law_total (fun σ => L2N.passAt (L2N.takes_of rfl rfl rfl rfl) σ) (pa_cons (pv 13) pa_nil)))
      (pss_cons (ps_setLc (i := 15) (own := [("p", 23)]) (g := gName 23) (by rfl) sc_law.nd rfl rfl (sw_true rfl rfl rfl (by decide +kernel)) (pi_list (pv 5)) (blkOk_by (N := N_law) (sc := defScope s_law) (by decide +kernel)) (fun _ _ _ _ _ => pg_name (i := 23) sc_law.nd rfl (.inl rfl)) (fun _ _ _ _ _ => pts_nil) (fun _ _ _ _ _ => (pe_op op_mulW (pv 11) (pv 23))))
      (pss_cons (ps_for (passes_of rfl) rfl (pi_range1 (by rfl) T.z_range (pa_cons (pe_callB call_len_seq (by rfl) T.z_len PySem.boot_len (pa_cons (pv 5) pa_nil)) pa_nil)) (pg_name (i := 16) sc_law.nd rfl (.inl rfl)) (pss_one (ps_asg (pe_ix ix_list (pv 15) (pv 16) (fun _ _ => rfl)) (pg_sub (pv 8) (pv 16) set_list))))
      (pss_cons (ps_setLc (i := 17) (own := [("draw", 24)]) (g := gName 24) (by rfl) sc_law.nd rfl rfl (sw_true rfl rfl rfl (by decide +kernel)) (pi_list (pv 6)) (blkOk_by (N := N_law) (sc := defScope s_law) (by decide +kernel)) (fun _ _ _ _ _ => pg_name (i := 24) sc_law.nd rfl (.inl rfl)) (fun _ _ _ _ _ => pts_nil) (fun _ _ _ _ _ => (pe_op op_add (pe_op op_mulW (pv 24) (pe_op op_powW pe_int pe_int)) (pe_ix (r := rIxL K) ix_list (pv 6) pe_int (fun _ _ => rfl)))))
      (pss_cons (ps_if (pt_not (pt_val (pe_callS (ok_law_asked (base := base) T) (hr.mono (by decide)) (by rfl) T.g_law_asked T.F_law_asked.kp T.b_law_asked (fun σ => L2N.passAt (L2N.takes_of rfl rfl rfl rfl) σ) (pa_cons (pv 8) (pa_cons (pe_op op_add (pe_op op_mulW (pv 11) (pv 4)) (pv 12)) (pa_cons (pv 14) (pa_cons (pv 13) (pa_cons (pe_lst pa_nil) (pa_cons (pv 17) pa_nil))))))))) (pss_one (ps_ret pe_bl)) pss_nil)
      (pss_cons (ps_if (pt_cmpR (op_neD hr.units) (pv 8) (pv 15) (nomark _)) (pss_one (ps_ret pe_bl)) pss_nil)
      (pss_cons (ps_set (i := 18) sc_law.nd rfl (.inl rfl) (pe_callS (ok_law_led_on (base := base) T) (hr.mono (by decide)) (by rfl) T.g_law_led_on T.F_law_led_on.kp T.b_law_led_on (fun σ => L2N.passAt (L2N.takes_of rfl rfl rfl rfl) σ) (pa_cons (pv 1) (pa_cons (pv 15) (pa_cons (pe_op op_add (pe_op op_mulW (pv 11) (pv 4)) (pv 12)) (pa_cons (pv 14) (pa_cons (pe_ix ix_list (pv 2) pe_int (fun _ _ => rfl)) pa_nil)))))))
      (pss_cons (ps_if (pt_not (pt_val (pe_callS (ok_law_asked (base := base) T) (hr.mono (by decide)) (by rfl) T.g_law_asked T.F_law_asked.kp T.b_law_asked (fun σ => L2N.passAt (L2N.takes_of rfl rfl rfl rfl) σ) (pa_cons (pe_callTy call_tuple_of (by rfl) T.z_tuple (by decide +kernel) (pa_cons (pe_ix ix_list (pv 18) pe_int (fun _ _ => rfl)) pa_nil)) (pa_cons (pe_ix ix_list (pv 18) pe_int (fun _ _ => rfl)) (pa_cons (pe_ix ix_list (pv 18) pe_int (fun _ _ => rfl)) (pa_cons (pv 13) (pa_cons (pe_ix ix_list (pv 18) pe_int (fun _ _ => rfl)) (pa_cons (pv 17) pa_nil))))))))) (pss_one (ps_ret pe_bl)) pss_nil)
      (pss_cons (ps_set (i := 19) sc_law.nd rfl (.inl rfl) (pe_callS (ok_law_dig (base := base) T) (hr.mono (by decide)) (by rfl) T.g_law_dig T.F_law_dig.kp T.b_law_dig (fun σ => L2N.passAt (L2N.takes_of rfl rfl rfl rfl) σ) (pa_cons (pv 1) (pa_cons pe_int (pa_cons (pe_lst (pa_cons pe_int (pa_cons (pe_op op_powW pe_int pe_int) (pa_cons (pe_op op_powW pe_int pe_int) (pa_cons (pe_op op_powW pe_int pe_int) (pa_cons (pe_op op_powW pe_int pe_int) (pa_cons pe_int (pa_cons (pe_op op_powW pe_int pe_int) (pa_cons (pe_op op_powW pe_int pe_int) pa_nil))))))))) pa_nil)))))
      (pss_cons (ps_set (i := 20) sc_law.nd rfl (.inl rfl) (pe_callS (ok_law_two (base := base) T) (hr.mono (by decide)) (by rfl) T.g_law_two T.F_law_two.kp T.b_law_two (fun σ => L2N.passAt (L2N.takes_of rfl rfl rfl rfl) σ) (pa_cons (pv 19) pa_nil)))
      (pss_cons (ps_if (pt_not (pt_val (pe_callS (ok_law_two_asked (base := base) T) (hr.mono (by decide)) (by rfl) T.g_law_two_asked T.F_law_two_asked.kp T.b_law_two_asked (fun σ => L2N.passAt (L2N.takes_of rfl rfl rfl rfl) σ) (pa_cons (pe_ix ix_list (pv 20) pe_int (fun _ _ => rfl)) (pa_cons (pe_ix ix_list (pv 20) pe_int (fun _ _ => rfl)) (pa_cons (pe_op op_add (pe_op op_mulW (pe_ix ix_list (pv 19) pe_int (fun _ _ => rfl)) (pe_op op_powW pe_int pe_int)) (pe_ix ix_list (pv 19) pe_int (fun _ _ => rfl))) pa_nil)))))) (pss_one (ps_ret pe_bl)) pss_nil)
      (pss_cons (ps_set (i := 21) sc_law.nd rfl (.inl rfl) (pe_ix ix_list (pe_lst (pa_cons pe_int (pa_cons (pe_un un_neg pe_int) (pa_cons (pe_op op_add (pe_op op_powW pe_int pe_int) pe_int) (pa_cons (pe_op op_sub (pe_un un_neg pe_int) (pe_ix ix_list (pv 6) pe_int (fun _ _ => rfl))) (pa_cons (pe_op op_add (pe_op op_add (pe_op op_powW pe_int pe_int) pe_int) (pe_ix ix_list (pv 6) pe_int (fun _ _ => rfl))) (pa_cons (pe_un un_neg (pe_op op_powW pe_int pe_int)) pa_nil))))))) (pe_ix ix_list (pv 2) pe_int (fun _ _ => rfl)) (fun _ _ => rfl)))
      (pss_cons (ps_set (i := 22) sc_law.nd rfl (.inl rfl) (pe_ix ix_list (pe_lst (pa_cons (pe_un un_neg pe_int) (pa_cons (pe_op op_add (pe_op op_powW pe_int pe_int) pe_int) (pa_cons (pe_un un_neg pe_int) (pa_cons (pe_op op_add (pe_op op_powW pe_int pe_int) pe_int) (pa_cons (pe_un un_neg pe_int) (pa_cons (pe_op op_add (pe_op op_powW pe_int pe_int) pe_int) pa_nil))))))) (pe_ix ix_list (pv 2) pe_int (fun _ _ => rfl)) (fun _ _ => rfl)))
      (pss_cons (ps_if (pt_not (pt_val (pe_callS (ok_law_refusals (base := base) T) (hr.mono (by decide)) (by rfl) T.g_law_refusals T.F_law_refusals.kp T.b_law_refusals (fun σ => L2N.passAt (L2N.takes_of rfl rfl rfl rfl) σ) (pa_cons (pv 5) (pa_cons (pe_op op_mod (pe_callTy call_int1 (by rfl) T.z_int (by decide +kernel) (pa_cons (pe_ix ix_list (pv 2) pe_int (fun _ _ => rfl)) pa_nil)) (pe_callB call_len_seq (by rfl) T.z_len PySem.boot_len (pa_cons (pv 5) pa_nil))) (pa_cons (pv 21) (pa_cons (pv 22) (pa_cons (pv 4) pa_nil)))))))) (pss_one (ps_ret pe_bl)) pss_nil)
      (pss_one (ps_ret (pe_callS (ok_law_asked (base := base) T) (hr.mono (by decide)) (by rfl) T.g_law_asked T.F_law_asked.kp T.b_law_asked (fun σ => L2N.passAt (L2N.takes_of rfl rfl rfl rfl) σ) (pa_cons (pe_lstOf (K := K) rfl (by rfl) T.z_list (by decide +kernel) (pa_cons (pv 5) pa_nil)) (pa_cons (pv 4) (pa_cons (pe_callS (ok_law_total (base := base) T) (hr.mono (by decide)) (by rfl) T.g_law_total T.F_law_total.kp T.b_law_total (fun σ => L2N.passAt (L2N.takes_of rfl rfl rfl rfl) σ) (pa_cons (pv 7) pa_nil)) (pa_cons (pv 7) (pa_cons (pe_lst pa_nil) (pa_cons (pv 6) pa_nil))))))))))))))))))))))))))))))))))))))), ?_⟩
  generalize start N_law vs = σ at hE ⊢
  change wp (m_law script) _ _ at h
  unfold m_law at h
  refine uSeq (uAsg (uSl ?_))
  refine st_var hE (i := 0) rfl fun v hE => ?_
  refine st_bdp hE ho_none ?_
  refine st_bdp hE (ho_p (hf_c (a := (63 : Int)) rfl trivial)) ?_
  refine st_slScr hE fun I H v hE => ?_
  refine st_name hE h fun cells hE h => ?_
  refine st_store (Γ' := [.im (script : Scr), .im (cells : (List Int)), .any, .any, .any, .any, .any, .any, .any, .any, .any, .any, .any, .any, .any, .any, .any, .any, .any, .any, .any, .any, .any, .any, .any]) hE rfl (by decide : (1 : Nat) < 25) fun σ hE => ?_
  refine uSeq (uAsg (uCallS (uCons ?_)))
  refine st_var hE (i := 1) rfl fun v hE => ?_
  refine uCons ?_
  refine st_push hE (hf_c (a := (0 : Int)) rfl trivial) fun hE => ?_
  refine uCons (uLst (uCons ?_))
  refine st_push hE (hf_c (a := (8 : Int)) rfl trivial) fun hE => ?_
  refine uCons ?_
  refine st_push hE (hf_c (a := (6 : Int)) rfl trivial) fun hE => ?_
  refine uCons ?_
  refine st_push hE (hf_c (a := (41 : Int)) rfl trivial) fun hE => ?_
  refine uCons ?_
  refine st_push hE (hf_c (a := (61 : Int)) rfl trivial) fun hE => ?_
  refine uCons ?_
  refine st_push hE (hf_c (a := (4 : Int)) rfl trivial) fun hE => ?_
  refine uCons ?_
  refine st_push hE (hf_c (a := (4 : Int)) rfl trivial) fun hE => ?_
  refine uCons ?_
  refine st_push hE (hf_c (a := (6 : Int)) rfl trivial) fun hE => ?_
  refine uCons ?_
  refine st_push hE (hf_c (a := (6 : Int)) rfl trivial) fun hE => ?_
  refine uNil ?_
  refine st_lstI (α := Int) _ [(8 : Int), (6 : Int), (41 : Int), (61 : Int), (4 : Int), (4 : Int), (6 : Int), (6 : Int)] rfl (by decide : (8 : Nat) ≤ line) hE fun I H v hE => ?_
  refine uNil ?_
  refine st_call (cells, (0 : Int), [(8 : Int), (6 : Int), (41 : Int), (61 : Int), (4 : Int), (4 : Int), (6 : Int), (6 : Int)]) hE rfl rfl h (fun e x I' H' cls d hm z => x _ H' cls d hm z.clear) fun t1 I H v hE h => ?_
  refine st_freezeT hE fun I hE => ?_
  refine st_store (Γ' := [.im (script : Scr), .im (cells : (List Int)), .im (t1 : (List Int)), .any, .any, .any, .any, .any, .any, .any, .any, .any, .any, .any, .any, .any, .any, .any, .any, .any, .any, .any, .any, .any, .any]) hE rfl (by decide : (2 : Nat) < 25) fun σ hE => ?_
  refine uSeq ?_
  refine st_setm (Γ' := fun (limit : Int) => [.im (script : Scr), .im (cells : (List Int)), .im (t1 : (List Int)), .im (limit : Int), .any, .any, .any, .any, .any, .any, .any, .any, .any, .any, .any, .any, .any, .any, .any, .any, .any, .any, .any, .any, .any]) hE (hf_c (a := (12 : Int)) rfl trivial) h (fun _ => rfl) (by decide : (3 : Nat) < 25) fun limit σ hE h => ?_
  refine uSeq ?_
  refine st_setm (Γ' := fun (n : Int) => [.im (script : Scr), .im (cells : (List Int)), .im (t1 : (List Int)), .im (limit : Int), .im (n : Int), .any, .any, .any, .any, .any, .any, .any, .any, .any, .any, .any, .any, .any, .any, .any, .any, .any, .any, .any, .any]) hE (hf_ixLp rfl (hf_c (a := (2 : Int)) rfl trivial)) h (fun _ => rfl) (by decide : (4 : Nat) < 25) fun n σ hE h => ?_
  refine uSeq ?_
  refine st_ifjm (fun (s : Int × Int) => match s with | (limit, n) => [.im (script : Scr), .im (cells : (List Int)), .im (t1 : (List Int)), .im (limit : Int), .im (n : Int), .any, .any, .any, .any, .any, .any, .any, .any, .any, .any, .any, .any, .any, .any, .any, .any, .any, .any, .any, .any]) hE (ht_tt (hf_mp (fun _ => hr_eqI) (hf_ixLp rfl (hf_c (a := (0 : Int)) rfl trivial)) (hf_c (a := (5 : Int)) rfl trivial))) h (fun h => ?_) (fun h => ?_) (fun s I H σ hE h => ?_)
  ·
    refine uSeq ?_
    refine st_setm (Γ' := fun (limit : Int) => [.im (script : Scr), .im (cells : (List Int)), .im (t1 : (List Int)), .im (limit : Int), .im (n : Int), .any, .any, .any, .any, .any, .any, .any, .any, .any, .any, .any, .any, .any, .any, .any, .any, .any, .any, .any, .any]) hE (hf_c (a := (20 : Int)) rfl trivial) h (fun _ => rfl) (by decide : (3 : Nat) < 25) fun limit σ hE h => ?_
    refine st_setm (Γ' := fun (n : Int) => [.im (script : Scr), .im (cells : (List Int)), .im (t1 : (List Int)), .im (limit : Int), .im (n : Int), .any, .any, .any, .any, .any, .any, .any, .any, .any, .any, .any, .any, .any, .any, .any, .any, .any, .any, .any, .any]) hE (hf_ixLp rfl (hf_c (a := (3 : Int)) rfl trivial)) h (fun _ => rfl) (by decide : (4 : Nat) < 25) fun n σ hE h => ?_
    exact h _ _ _ (hE.weak (Γ' := [.im (script : Scr), .im (cells : (List Int)), .im (t1 : (List Int)), .im (limit : Int), .im (n : Int), .any, .any, .any, .any, .any, .any, .any, .any, .any, .any, .any, .any, .any, .any, .any, .any, .any, .any, .any, .any]) ⟨.inr rfl, .inr rfl, .inr rfl, .inr rfl, .inr rfl, .inl rfl, .inl rfl, .inl rfl, .inl rfl, .inl rfl, .inl rfl, .inl rfl, .inl rfl, .inl rfl, .inl rfl, .inl rfl, .inl rfl, .inl rfl, .inl rfl, .inl rfl, .inl rfl, .inl rfl, .inl rfl, .inl rfl, .inl rfl, trivial⟩)
  ·
    refine uNext ?_
    exact h _ _ _ (hE.weak (Γ' := [.im (script : Scr), .im (cells : (List Int)), .im (t1 : (List Int)), .im (limit : Int), .im (n : Int), .any, .any, .any, .any, .any, .any, .any, .any, .any, .any, .any, .any, .any, .any, .any, .any, .any, .any, .any, .any]) ⟨.inr rfl, .inr rfl, .inr rfl, .inr rfl, .inr rfl, .inl rfl, .inl rfl, .inl rfl, .inl rfl, .inl rfl, .inl rfl, .inl rfl, .inl rfl, .inl rfl, .inl rfl, .inl rfl, .inl rfl, .inl rfl, .inl rfl, .inl rfl, .inl rfl, .inl rfl, .inl rfl, .inl rfl, .inl rfl, trivial⟩)
  obtain ⟨limit, n⟩ := s
  refine uSeq (uAsg (uLc ?_))
  refine it_rng1m hE (hf_pm (fun _ => hr_add) (hf_c (a := (1 : Int)) rfl trivial) (hf_ixLp rfl (hf_c (a := (1 : Int)) rfl trivial))) h fun xs5 h J hJ => ?_
  refine st_lcm (α := Int) (β := Int) (i := 16) hJ hE rfl h (fun ys10 I H v hE h => ?_) (fun k_ I H σ ρ' Θ' Qe hE h => ?_)
  rotate_left 1
  ·
    refine uOp ?_
    refine st_push hE (hf_c (a := (1 : Int)) rfl trivial) fun hE => ?_
    refine uOp (uCallS (uCons ?_))
    refine st_var hE (i := 1) rfl fun v hE => ?_
    refine uCons ?_
    refine st_push hE (hf_pp hr_add (hf_c (a := (1 : Int)) rfl trivial) (hf_var rfl)) fun hE => ?_
    refine uCons (uLst (uCons ?_))
    refine st_push hE (hf_var rfl) fun hE => ?_
    refine uNil ?_
    refine st_lstI (α := Int) _ [limit] rfl (by decide : (1 : Nat) ≤ line) hE fun I H v hE => ?_
    refine uNil ?_
    refine st_callX (cells, ((1 : Int) + k_), [limit]) hE rfl rfl h  fun t7 I H v hE h => ?_
    refine st_freezeT hE fun I hE => ?_
    refine st_push hE (hf_c (a := (0 : Int)) rfl trivial) fun hE => ?_
    refine st_ixL hE h fun t8 v hE h => ?_
    refine st_op2 hE hr_add h fun t9 v hE h => ?_
    exact h _ _ _ hE
  refine st_freezeT hE fun I hE => ?_
  refine st_store (Γ' := [.im (script : Scr), .im (cells : (List Int)), .im (t1 : (List Int)), .im (limit : Int), .im (n : Int), .im (ys10 : (List Int)), .any, .any, .any, .any, .any, .any, .any, .any, .any, .any, .any, .any, .any, .any, .any, .any, .any, .any, .any]) hE rfl (by decide : (5 : Nat) < 25) fun σ hE => ?_
  refine uSeq (uAsg (uCallS (uCons ?_)))
  refine st_var hE (i := 1) rfl fun v hE => ?_
  refine uCons ?_
  refine st_push hE (hf_c (a := (7 : Int)) rfl trivial) fun hE => ?_
  refine uCons (uLst (uCons ?_))
  refine st_push hE (hf_is (m := (powI (10 : Int) (9 : Int))) (m' := .ok (1000000000 : Int)) (hf_pp hr_pow (hf_c (a := (10 : Int)) rfl trivial) (hf_c (a := (9 : Int)) rfl trivial)) (by decide +kernel)) fun hE => ?_
  refine uCons ?_
  refine st_push hE (hf_is (m := (powI (10 : Int) (9 : Int))) (m' := .ok (1000000000 : Int)) (hf_pp hr_pow (hf_c (a := (10 : Int)) rfl trivial) (hf_c (a := (9 : Int)) rfl trivial)) (by decide +kernel)) fun hE => ?_
  refine uCons ?_
  refine st_push hE (hf_is (m := (powI (10 : Int) (9 : Int))) (m' := .ok (1000000000 : Int)) (hf_pp hr_pow (hf_c (a := (10 : Int)) rfl trivial) (hf_c (a := (9 : Int)) rfl trivial)) (by decide +kernel)) fun hE => ?_
  refine uNil ?_
  refine st_lstI (α := Int) _ [(1000000000 : Int), (1000000000 : Int), (1000000000 : Int)] rfl (by decide : (3 : Nat) ≤ line) hE fun I H v hE => ?_
  refine uNil ?_
  refine st_call (cells, (7 : Int), [(1000000000 : Int), (1000000000 : Int), (1000000000 : Int)]) hE rfl rfl h (fun e x I' H' cls d hm z => x _ H' cls d hm z.clear) fun t11 I H v hE h => ?_
  refine st_freezeT hE fun I hE => ?_
  refine st_store (Γ' := [.im (script : Scr), .im (cells : (List Int)), .im (t1 : (List Int)), .im (limit : Int), .im (n : Int), .im (ys10 : (List Int)), .im (t11 : (List Int)), .any, .any, .any, .any, .any, .any, .any, .any, .any, .any, .any, .any, .any, .any, .any, .any, .any, .any]) hE rfl (by decide : (6 : Nat) < 25) fun σ hE => ?_
  refine uSeq (uAsg (uCallS (uCons ?_)))
  refine st_var hE (i := 5) rfl fun v hE => ?_
  refine uCons ?_
  refine st_push hE (hf_var rfl) fun hE => ?_
  refine uCons ?_
  refine st_push hE (hf_c (a := (1 : Int)) rfl trivial) fun hE => ?_
  refine uCons ?_
  refine st_push hE (hf_c (a := (0 : Int)) rfl trivial) fun hE => ?_
  refine uNil ?_
  refine st_call (ys10, n, (1 : Int), (0 : Int)) hE rfl rfl h (fun e x I' H' cls d hm z => x _ H' cls d hm z.clear) fun t12 I H v hE h => ?_
  refine st_store (Γ' := [.im (script : Scr), .im (cells : (List Int)), .im (t1 : (List Int)), .im (limit : Int), .im (n : Int), .im (ys10 : (List Int)), .im (t11 : (List Int)), .im (t12 : (ML4 Int Int (List Int) (List Int))), .any, .any, .any, .any, .any, .any, .any, .any, .any, .any, .any, .any, .any, .any, .any, .any, .any]) hE rfl (by decide : (7 : Nat) < 25) fun σ hE => ?_
  refine uSeq (uAsg (uCB (uCons ?_)))
  refine st_var hE (i := 5) rfl fun v hE => ?_
  refine uNil ?_
  refine st_listO hE fun H v hE => ?_
  refine st_store (Γ' := [.im (script : Scr), .im (cells : (List Int)), .im (t1 : (List Int)), .im (limit : Int), .im (n : Int), .im (ys10 : (List Int)), .im (t11 : (List Int)), .im (t12 : (ML4 Int Int (List Int) (List Int))), .own (ys10 : (List Int)), .any, .any, .any, .any, .any, .any, .any, .any, .any, .any, .any, .any, .any, .any, .any, .any]) hE rfl (by decide : (8 : Nat) < 25) fun σ hE => ?_
  refine uSeq (uIf (uNot (uB ?_)))
  skip
  obtain ⟨I13_0, s13_0, hE13_0⟩ := hE.let (i := 8) rfl
  obtain ⟨S13, hE, back13, backX13, backO13⟩ := hE.borrowO hE13_0 s13_0
  replace hE : Env K _ _ _ [.im (script : Scr), .im (cells : (List Int)), .im (t1 : (List Int)), .im (limit : Int), .im (n : Int), .im (ys10 : (List Int)), .im (t11 : (List Int)), .im (t12 : (ML4 Int Int (List Int) (List Int))), .im (ys10 : (List Int)), .any, .any, .any, .any, .any, .any, .any, .any, .any, .any, .any, .any, .any, .any, .any, .any] _ _ := hE
  refine uCallS (uCons ?_)
  refine st_var hE (i := 8) rfl fun v hE => ?_
  replace hE := hE.listSeq
  refine uCons ?_
  refine st_push hE (hf_var rfl) fun hE => ?_
  refine uCons (uCallS (uCons ?_))
  refine st_var hE (i := 7) rfl fun v hE => ?_
  refine uNil ?_
  refine st_call t12 hE rfl rfl h (fun e x I' H' cls d hm z => let ⟨_, z⟩ := backX13 z.nip.nip; x _ H' cls d hm z.clear) fun t14 I H v hE h => ?_
  refine uCons ?_
  refine st_var hE (i := 7) rfl fun v hE => ?_
  refine uCons (uLst (uNil ?_))
  refine st_lstI (α := (List Int)) [] [] rfl (Nat.zero_le _) hE fun I H v hE => ?_
  refine uCons ?_
  refine st_var hE (i := 6) rfl fun v hE => ?_
  refine uNil ?_
  refine st_call ((SeqL.mk ys10), n, t14, t12, ([] : List (List Int)), t11) hE rfl rfl h (fun e x I' H' cls d hm z => let ⟨_, z⟩ := backX13 z; x _ H' cls d hm z.clear) fun t15 I H v hE h => ?_
  replace hE := back13 hE
  refine st_vb hE fun hE => ?_
  refine st_ite h (fun h => ?_) (fun h => ?_)
  ·
    exact st_ret hE (hf_c (a := false) rfl trivial) h
  ·
    refine uNext (uSeq (uIf (uTest ?_)))
    skip
    obtain ⟨I16_0, s16_0, hE16_0⟩ := hE.let (i := 8) rfl
    obtain ⟨S16, hE, back16, backX16, backO16⟩ := hE.borrowO hE16_0 s16_0
    replace hE : Env K _ _ _ [.im (script : Scr), .im (cells : (List Int)), .im (t1 : (List Int)), .im (limit : Int), .im (n : Int), .im (ys10 : (List Int)), .im (t11 : (List Int)), .im (t12 : (ML4 Int Int (List Int) (List Int))), .im (ys10 : (List Int)), .any, .any, .any, .any, .any, .any, .any, .any, .any, .any, .any, .any, .any, .any, .any, .any] _ _ := hE
    refine uOp ?_
    refine st_var hE (i := 8) rfl fun v hE => ?_
    refine st_var hE (i := 5) rfl fun v hE => ?_
    refine st_neD hE (by decide) h fun t17 v hE h => ?_
    replace hE := back16 hE
    refine st_vb hE fun hE => ?_
    refine st_ite h (fun h => ?_) (fun h => ?_)
    ·
      exact st_ret hE (hf_c (a := false) rfl trivial) h
    ·
      refine uNext (uSeq (uAsg (uCallS (uCons ?_))))
      refine st_var hE (i := 1) rfl fun v hE => ?_
      refine uCons ?_
      refine st_push hE (hf_c (a := (8 : Int)) rfl trivial) fun hE => ?_
      refine uCons (uLst (uCons ?_))
      refine st_push hE (hf_c (a := (9 : Int)) rfl trivial) fun hE => ?_
      refine uCons ?_
      refine st_push hE (hf_is (m := (powI (10 : Int) (8 : Int))) (m' := .ok (100000000 : Int)) (hf_pp hr_pow (hf_c (a := (10 : Int)) rfl trivial) (hf_c (a := (8 : Int)) rfl trivial)) (by decide +kernel)) fun hE => ?_
      refine uCons ?_
      refine st_push hE (hf_is (m := (powI (10 : Int) (8 : Int))) (m' := .ok (100000000 : Int)) (hf_pp hr_pow (hf_c (a := (10 : Int)) rfl trivial) (hf_c (a := (8 : Int)) rfl trivial)) (by decide +kernel)) fun hE => ?_
      refine uCons ?_
      refine st_push hE (hf_c (a := (3 : Int)) rfl trivial) fun hE => ?_
      refine uCons ?_
      refine st_push hE (hf_is (m := (powI (10 : Int) (8 : Int))) (m' := .ok (100000000 : Int)) (hf_pp hr_pow (hf_c (a := (10 : Int)) rfl trivial) (hf_c (a := (8 : Int)) rfl trivial)) (by decide +kernel)) fun hE => ?_
      refine uCons ?_
      refine st_push hE (hf_is (m := (powI (10 : Int) (8 : Int))) (m' := .ok (100000000 : Int)) (hf_pp hr_pow (hf_c (a := (10 : Int)) rfl trivial) (hf_c (a := (8 : Int)) rfl trivial)) (by decide +kernel)) fun hE => ?_
      refine uNil ?_
      refine st_lstI (α := Int) _ [(9 : Int), (100000000 : Int), (100000000 : Int), (3 : Int), (100000000 : Int), (100000000 : Int)] rfl (by decide : (6 : Nat) ≤ line) hE fun I H v hE => ?_
      refine uNil ?_
      refine st_call (cells, (8 : Int), [(9 : Int), (100000000 : Int), (100000000 : Int), (3 : Int), (100000000 : Int), (100000000 : Int)]) hE rfl rfl h (fun e x I' H' cls d hm z => x _ H' cls d hm z.clear) fun t18 I H v hE h => ?_
      refine st_freezeT hE fun I hE => ?_
      refine st_store (Γ' := [.im (script : Scr), .im (cells : (List Int)), .im (t1 : (List Int)), .im (limit : Int), .im (n : Int), .im (ys10 : (List Int)), .im (t11 : (List Int)), .im (t12 : (ML4 Int Int (List Int) (List Int))), .own (ys10 : (List Int)), .im (t18 : (List Int)), .any, .any, .any, .any, .any, .any, .any, .any, .any, .any, .any, .any, .any, .any, .any]) hE rfl (by decide : (9 : Nat) < 25) fun σ hE => ?_
      refine uSeq ?_
      refine st_setm (Γ' := fun (most : Int) => [.im (script : Scr), .im (cells : (List Int)), .im (t1 : (List Int)), .im (limit : Int), .im (n : Int), .im (ys10 : (List Int)), .im (t11 : (List Int)), .im (t12 : (ML4 Int Int (List Int) (List Int))), .own (ys10 : (List Int)), .im (t18 : (List Int)), .im (most : Int), .any, .any, .any, .any, .any, .any, .any, .any, .any, .any, .any, .any, .any, .any]) hE (hf_mm (fun _ _ => hr_add) (hf_pm (fun _ => hr_add) (hf_c (a := (1 : Int)) rfl trivial) (hf_mp (fun _ => hr_mul) (hf_ixLp rfl (hf_c (a := (1 : Int)) rfl trivial)) (hf_is (m := (powI (10 : Int) (8 : Int))) (m' := .ok (100000000 : Int)) (hf_pp hr_pow (hf_c (a := (10 : Int)) rfl trivial) (hf_c (a := (8 : Int)) rfl trivial)) (by decide +kernel)))) (hf_ixLp rfl (hf_c (a := (2 : Int)) rfl trivial))) h (fun _ => rfl) (by decide : (10 : Nat) < 25) fun most σ hE h => ?_
      refine uSeq (uAsg (uOp (uLst (uCons ?_))))
      refine st_pushm hE (hf_pm (fun _ => hr_add) (hf_c (a := (2 : Int)) rfl trivial) (hf_ixLp rfl (hf_c (a := (0 : Int)) rfl trivial))) h fun t24 hE h => ?_
      refine uCons ?_
      refine st_pushm hE (hf_pm (fun _ => hr_add) (hf_c (a := (1 : Int)) rfl trivial) (hf_ixLp rfl (hf_c (a := (1 : Int)) rfl trivial))) h fun t26 hE h => ?_
      refine uCons ?_
      refine st_pushm hE (hf_pm (fun _ => hr_add) (hf_c (a := (1 : Int)) rfl trivial) (hf_ixLp rfl (hf_c (a := (1 : Int)) rfl trivial))) h fun t28 hE h => ?_
      refine uCons ?_
      refine st_push hE (hf_var rfl) fun hE => ?_
      refine uNil ?_
      refine st_lstI (α := Int) _ [t24, t26, t28, most] rfl (by decide : (4 : Nat) ≤ line) hE fun I H v hE => ?_
      refine st_pushm hE (hf_ixLp rfl (hf_c (a := (4 : Int)) rfl trivial)) h fun t29 hE h => ?_
      refine st_ixL hE h fun t30 v hE h => ?_
      refine st_store (Γ' := [.im (script : Scr), .im (cells : (List Int)), .im (t1 : (List Int)), .im (limit : Int), .im (n : Int), .im (ys10 : (List Int)), .im (t11 : (List Int)), .im (t12 : (ML4 Int Int (List Int) (List Int))), .own (ys10 : (List Int)), .im (t18 : (List Int)), .im (most : Int), .im (t30 : Int), .any, .any, .any, .any, .any, .any, .any, .any, .any, .any, .any, .any, .any]) hE rfl (by decide : (11 : Nat) < 25) fun σ hE => ?_
      refine uSeq (uAsg (uOp (uLst (uCons ?_))))
      refine st_push hE (hf_c (a := (0 : Int)) rfl trivial) fun hE => ?_
      refine uCons ?_
      refine st_pushm hE (hf_mp (fun _ => hr_mod) (hf_c1m (fun _ => hc_int) (hf_ixLp rfl (hf_c (a := (4 : Int)) rfl trivial))) (hf_var rfl)) h fun t33 hE h => ?_
      refine uCons ?_
      refine st_pushm hE (hf_mp (fun _ => hr_mod) (hf_mm (fun _ _ => hr_add) (hf_mp (fun _ => hr_mul) (hf_ixLp rfl (hf_c (a := (4 : Int)) rfl trivial)) (hf_is (m := (powI (10 : Int) (8 : Int))) (m' := .ok (100000000 : Int)) (hf_pp hr_pow (hf_c (a := (10 : Int)) rfl trivial) (hf_c (a := (8 : Int)) rfl trivial)) (by decide +kernel))) (hf_ixLp rfl (hf_c (a := (5 : Int)) rfl trivial))) (hf_var rfl)) h fun t38 hE h => ?_
      refine uNil ?_
      refine st_lstI (α := Int) _ [(0 : Int), t33, t38] rfl (by decide : (3 : Nat) ≤ line) hE fun I H v hE => ?_
      refine st_pushm hE (hf_ixLp rfl (hf_c (a := (3 : Int)) rfl trivial)) h fun t39 hE h => ?_
      refine st_ixL hE h fun t40 v hE h => ?_
      refine st_store (Γ' := [.im (script : Scr), .im (cells : (List Int)), .im (t1 : (List Int)), .im (limit : Int), .im (n : Int), .im (ys10 : (List Int)), .im (t11 : (List Int)), .im (t12 : (ML4 Int Int (List Int) (List Int))), .own (ys10 : (List Int)), .im (t18 : (List Int)), .im (most : Int), .im (t30 : Int), .im (t40 : Int), .any, .any, .any, .any, .any, .any, .any, .any, .any, .any, .any, .any]) hE rfl (by decide : (12 : Nat) < 25) fun σ hE => ?_
      refine uSeq (uAsg (uCallS (uCons ?_)))
      refine st_var hE (i := 5) rfl fun v hE => ?_
      refine uCons ?_
      refine st_push hE (hf_var rfl) fun hE => ?_
      refine uCons ?_
      refine st_push hE (hf_var rfl) fun hE => ?_
      refine uCons ?_
      refine st_push hE (hf_var rfl) fun hE => ?_
      refine uNil ?_
      refine st_call (ys10, n, t30, t40) hE rfl rfl h (fun e x I' H' cls d hm z => x _ H' cls d hm z.clear) fun t41 I H v hE h => ?_
      refine st_store (Γ' := [.im (script : Scr), .im (cells : (List Int)), .im (t1 : (List Int)), .im (limit : Int), .im (n : Int), .im (ys10 : (List Int)), .im (t11 : (List Int)), .im (t12 : (ML4 Int Int (List Int) (List Int))), .own (ys10 : (List Int)), .im (t18 : (List Int)), .im (most : Int), .im (t30 : Int), .im (t40 : Int), .im (t41 : (ML4 Int Int (List Int) (List Int))), .any, .any, .any, .any, .any, .any, .any, .any, .any, .any, .any]) hE rfl (by decide : (13 : Nat) < 25) fun σ hE => ?_
      refine uSeq (uAsg (uCallS (uCons ?_)))
      refine st_var hE (i := 13) rfl fun v hE => ?_
      refine uNil ?_
      refine st_call t41 hE rfl rfl h (fun e x I' H' cls d hm z => x _ H' cls d hm z.clear) fun t42 I H v hE h => ?_
      refine st_store (Γ' := [.im (script : Scr), .im (cells : (List Int)), .im (t1 : (List Int)), .im (limit : Int), .im (n : Int), .im (ys10 : (List Int)), .im (t11 : (List Int)), .im (t12 : (ML4 Int Int (List Int) (List Int))), .own (ys10 : (List Int)), .im (t18 : (List Int)), .im (most : Int), .im (t30 : Int), .im (t40 : Int), .im (t41 : (ML4 Int Int (List Int) (List Int))), .im (t42 : Int), .any, .any, .any, .any, .any, .any, .any, .any, .any, .any]) hE rfl (by decide : (14 : Nat) < 25) fun σ hE => ?_
      refine uSeq (uAsg (uLc (uList ?_)))
      refine st_var hE (i := 5) rfl fun v hE => ?_
      refine it_list hE fun ja hJ => ?_
      refine st_lcm (α := Int) (β := Int) (i := 23) hJ hE rfl h (fun ys44 I H v hE h => ?_) (fun p I H σ ρ' Θ' Qe hE h => ?_)
      rotate_left 1
      ·
        refine st_pushm hE (hf_pp hr_mul (hf_var rfl) (hf_var rfl)) h fun t43 hE h => ?_
        exact h _ _ _ hE
      refine st_freezeT hE fun I hE => ?_
      refine st_store (Γ' := [.im (script : Scr), .im (cells : (List Int)), .im (t1 : (List Int)), .im (limit : Int), .im (n : Int), .im (ys10 : (List Int)), .im (t11 : (List Int)), .im (t12 : (ML4 Int Int (List Int) (List Int))), .own (ys10 : (List Int)), .im (t18 : (List Int)), .im (most : Int), .im (t30 : Int), .im (t40 : Int), .im (t41 : (ML4 Int Int (List Int) (List Int))), .im (t42 : Int), .im (ys44 : (List Int)), .any, .any, .any, .any, .any, .any, .any, .any, .any]) hE rfl (by decide : (15 : Nat) < 25) fun σ hE => ?_
      refine uSeq (uFor ?_)
      refine it_rng1 hE (hf_lenL (hΓ := rfl)) h fun xs45 h J hJ => ?_
      refine st_forS (α := Int) hJ (fun (handed : (List Int)) => [.im (script : Scr), .im (cells : (List Int)), .im (t1 : (List Int)), .im (limit : Int), .im (n : Int), .im (ys10 : (List Int)), .im (t11 : (List Int)), .im (t12 : (ML4 Int Int (List Int) (List Int))), .own (handed : (List Int)), .im (t18 : (List Int)), .im (most : Int), .im (t30 : Int), .im (t40 : Int), .im (t41 : (ML4 Int Int (List Int) (List Int))), .im (t42 : Int), .im (ys44 : (List Int)), .any, .any, .any, .any, .any, .any, .any, .any, .any]) hE ⟨.inr rfl, .inr rfl, .inr rfl, .inr rfl, .inr rfl, .inr rfl, .inr rfl, .inr rfl, .inr rfl, .inr rfl, .inr rfl, .inr rfl, .inr rfl, .inr rfl, .inr rfl, .inr rfl, .inl rfl, .inl rfl, .inl rfl, .inl rfl, .inl rfl, .inl rfl, .inl rfl, .inl rfl, .inl rfl, trivial⟩ h (fun k_ s I H σ v N B hE h => ?_) (fun s I H σ hE h => ?_)
      ·
        revert hE h; revert s; intro handed hE h
        refine st_store (Γ' := [.im (script : Scr), .im (cells : (List Int)), .im (t1 : (List Int)), .im (limit : Int), .im (n : Int), .im (ys10 : (List Int)), .im (t11 : (List Int)), .im (t12 : (ML4 Int Int (List Int) (List Int))), .own (handed : (List Int)), .im (t18 : (List Int)), .im (most : Int), .im (t30 : Int), .im (t40 : Int), .im (t41 : (ML4 Int Int (List Int) (List Int))), .im (t42 : Int), .im (ys44 : (List Int)), .im (k_ : Int), .any, .any, .any, .any, .any, .any, .any, .any]) hE rfl (by decide : (16 : Nat) < 25) fun σ hE => ?_
        refine uAsg ?_
        refine st_pushm hE (hf_ixLp rfl (hf_var rfl)) h fun t46 hE h => ?_
        refine st_setLp (i := 8) (Γ' := fun (handed : (List Int)) => [.im (script : Scr), .im (cells : (List Int)), .im (t1 : (List Int)), .im (limit : Int), .im (n : Int), .im (ys10 : (List Int)), .im (t11 : (List Int)), .im (t12 : (ML4 Int Int (List Int) (List Int))), .own (handed : (List Int)), .im (t18 : (List Int)), .im (most : Int), .im (t30 : Int), .im (t40 : Int), .im (t41 : (ML4 Int Int (List Int) (List Int))), .im (t42 : Int), .im (ys44 : (List Int)), .im (k_ : Int), .any, .any, .any, .any, .any, .any, .any, .any]) hE rfl (hf_var rfl) h (fun _ => rfl) fun handed H hE h => ?_
        exact h _ _ _ (hE.weak (Γ' := [.im (script : Scr), .im (cells : (List Int)), .im (t1 : (List Int)), .im (limit : Int), .im (n : Int), .im (ys10 : (List Int)), .im (t11 : (List Int)), .im (t12 : (ML4 Int Int (List Int) (List Int))), .own (handed : (List Int)), .im (t18 : (List Int)), .im (most : Int), .im (t30 : Int), .im (t40 : Int), .im (t41 : (ML4 Int Int (List Int) (List Int))), .im (t42 : Int), .im (ys44 : (List Int)), .any, .any, .any, .any, .any, .any, .any, .any, .any]) ⟨.inr rfl, .inr rfl, .inr rfl, .inr rfl, .inr rfl, .inr rfl, .inr rfl, .inr rfl, .inr rfl, .inr rfl, .inr rfl, .inr rfl, .inr rfl, .inr rfl, .inr rfl, .inr rfl, .inl rfl, .inl rfl, .inl rfl, .inl rfl, .inl rfl, .inl rfl, .inl rfl, .inl rfl, .inl rfl, trivial⟩)
      revert hE h; revert s; intro handed hE h
      refine uSeq (uAsg (uLc (uList ?_)))
      refine st_var hE (i := 6) rfl fun v hE => ?_
      refine it_list hE fun ja hJ => ?_
      refine st_lcm (α := Int) (β := Int) (i := 24) hJ hE rfl h (fun ys51 I H v hE h => ?_) (fun draw I H σ ρ' Θ' Qe hE h => ?_)
      rotate_left 1
      ·
        refine st_pushm hE (hf_mm (fun _ _ => hr_add) (hf_pp hr_mul (hf_var rfl) (hf_is (m := (powI (10 : Int) (9 : Int))) (m' := .ok (1000000000 : Int)) (hf_pp hr_pow (hf_c (a := (10 : Int)) rfl trivial) (hf_c (a := (9 : Int)) rfl trivial)) (by decide +kernel))) (hf_ixLp rfl (hf_c (a := (0 : Int)) rfl trivial))) h fun t50 hE h => ?_
        exact h _ _ _ hE
      refine st_freezeT hE fun I hE => ?_
      refine st_store (Γ' := [.im (script : Scr), .im (cells : (List Int)), .im (t1 : (List Int)), .im (limit : Int), .im (n : Int), .im (ys10 : (List Int)), .im (t11 : (List Int)), .im (t12 : (ML4 Int Int (List Int) (List Int))), .own (handed : (List Int)), .im (t18 : (List Int)), .im (most : Int), .im (t30 : Int), .im (t40 : Int), .im (t41 : (ML4 Int Int (List Int) (List Int))), .im (t42 : Int), .im (ys44 : (List Int)), .any, .im (ys51 : (List Int)), .any, .any, .any, .any, .any, .any, .any]) hE rfl (by decide : (17 : Nat) < 25) fun σ hE => ?_
      refine uSeq (uIf (uNot (uB ?_)))
      skip
      obtain ⟨I52_0, s52_0, hE52_0⟩ := hE.let (i := 8) rfl
      obtain ⟨S52, hE, back52, backX52, backO52⟩ := hE.borrowO hE52_0 s52_0
      replace hE : Env K _ _ _ [.im (script : Scr), .im (cells : (List Int)), .im (t1 : (List Int)), .im (limit : Int), .im (n : Int), .im (ys10 : (List Int)), .im (t11 : (List Int)), .im (t12 : (ML4 Int Int (List Int) (List Int))), .im (handed : (List Int)), .im (t18 : (List Int)), .im (most : Int), .im (t30 : Int), .im (t40 : Int), .im (t41 : (ML4 Int Int (List Int) (List Int))), .im (t42 : Int), .im (ys44 : (List Int)), .any, .im (ys51 : (List Int)), .any, .any, .any, .any, .any, .any, .any] _ _ := hE
      refine uCallS (uCons ?_)
      refine st_var hE (i := 8) rfl fun v hE => ?_
      replace hE := hE.listSeq
      refine uCons ?_
      refine st_pushm hE (hf_mp (fun _ => hr_add) (hf_pp hr_mul (hf_var rfl) (hf_var rfl)) (hf_var rfl)) h fun t54 hE h => ?_
      refine uCons ?_
      refine st_push hE (hf_var rfl) fun hE => ?_
      refine uCons ?_
      refine st_var hE (i := 13) rfl fun v hE => ?_
      refine uCons (uLst (uNil ?_))
      refine st_lstI (α := (List Int)) [] [] rfl (Nat.zero_le _) hE fun I H v hE => ?_
      refine uCons ?_
      refine st_var hE (i := 17) rfl fun v hE => ?_
      refine uNil ?_
      refine st_call ((SeqL.mk handed), t54, t42, t41, ([] : List (List Int)), ys51) hE rfl rfl h (fun e x I' H' cls d hm z => let ⟨_, z⟩ := backX52 z; x _ H' cls d hm z.clear) fun t55 I H v hE h => ?_
      replace hE := back52 hE
      refine st_vb hE fun hE => ?_
      refine st_ite h (fun h => ?_) (fun h => ?_)
      ·
        exact st_ret hE (hf_c (a := false) rfl trivial) h
      ·
        refine uNext (uSeq (uIf (uTest ?_)))
        skip
        obtain ⟨I56_0, s56_0, hE56_0⟩ := hE.let (i := 8) rfl
        obtain ⟨S56, hE, back56, backX56, backO56⟩ := hE.borrowO hE56_0 s56_0
        replace hE : Env K _ _ _ [.im (script : Scr), .im (cells : (List Int)), .im (t1 : (List Int)), .im (limit : Int), .im (n : Int), .im (ys10 : (List Int)), .im (t11 : (List Int)), .im (t12 : (ML4 Int Int (List Int) (List Int))), .im (handed : (List Int)), .im (t18 : (List Int)), .im (most : Int), .im (t30 : Int), .im (t40 : Int), .im (t41 : (ML4 Int Int (List Int) (List Int))), .im (t42 : Int), .im (ys44 : (List Int)), .any, .im (ys51 : (List Int)), .any, .any, .any, .any, .any, .any, .any] _ _ := hE
        refine uOp ?_
        refine st_var hE (i := 8) rfl fun v hE => ?_
        refine st_var hE (i := 15) rfl fun v hE => ?_
        refine st_neD hE (by decide) h fun t57 v hE h => ?_
        replace hE := back56 hE
        refine st_vb hE fun hE => ?_
        refine st_ite h (fun h => ?_) (fun h => ?_)
        ·
          exact st_ret hE (hf_c (a := false) rfl trivial) h
        ·
          refine uNext (uSeq (uAsg (uCallS (uCons ?_))))
          refine st_var hE (i := 1) rfl fun v hE => ?_
          refine uCons ?_
          refine st_var hE (i := 15) rfl fun v hE => ?_
          refine uCons ?_
          refine st_pushm hE (hf_mp (fun _ => hr_add) (hf_pp hr_mul (hf_var rfl) (hf_var rfl)) (hf_var rfl)) h fun t59 hE h => ?_
          refine uCons ?_
          refine st_push hE (hf_var rfl) fun hE => ?_
          refine uCons ?_
          refine st_pushm hE (hf_ixLp rfl (hf_c (a := (5 : Int)) rfl trivial)) h fun t60 hE h => ?_
          refine uNil ?_
          refine st_call (cells, ys44, t59, t42, t60) hE rfl rfl h (fun e x I' H' cls d hm z => x _ H' cls d hm z.clear) fun t61 I H v hE h => ?_
          refine st_store (Γ' := [.im (script : Scr), .im (cells : (List Int)), .im (t1 : (List Int)), .im (limit : Int), .im (n : Int), .im (ys10 : (List Int)), .im (t11 : (List Int)), .im (t12 : (ML4 Int Int (List Int) (List Int))), .own (handed : (List Int)), .im (t18 : (List Int)), .im (most : Int), .im (t30 : Int), .im (t40 : Int), .im (t41 : (ML4 Int Int (List Int) (List Int))), .im (t42 : Int), .im (ys44 : (List Int)), .any, .im (ys51 : (List Int)), .im (t61 : (ML4 (List Int) Int Int (List (List Int)))), .any, .any, .any, .any, .any, .any]) hE rfl (by decide : (18 : Nat) < 25) fun σ hE => ?_
          refine uSeq (uIf (uNot (uB (uCallS (uCons (uCB (uCons ?_)))))))
          refine st_ixM4_0 (j := 18) hE rfl fun v hE => ?_
          refine uNil ?_
          refine st_tupleOf hE fun I H v hE => ?_
          replace hE := hE.tupSeq
          refine uCons ?_
          refine st_push hE (hf_ixM4_1 (hΓ := rfl)) fun hE => ?_
          refine uCons ?_
          refine st_push hE (hf_ixM4_2 (hΓ := rfl)) fun hE => ?_
          refine uCons ?_
          refine st_var hE (i := 13) rfl fun v hE => ?_
          refine uCons ?_
          refine st_ixM4_3 (j := 18) hE rfl fun v hE => ?_
          refine uCons ?_
          refine st_var hE (i := 17) rfl fun v hE => ?_
          refine uNil ?_
          refine st_call ((SeqL.mk (TupL.mk t61.a).l), t61.b, t61.c, t41, t61.d, ys51) hE rfl rfl h (fun e x I' H' cls d hm z => x _ H' cls d hm z.clear) fun t62 I H v hE h => ?_
          refine st_vb hE fun hE => ?_
          refine st_ite h (fun h => ?_) (fun h => ?_)
          ·
            exact st_ret hE (hf_c (a := false) rfl trivial) h
          ·
            refine uNext (uSeq (uAsg (uCallS (uCons ?_))))
            refine st_var hE (i := 1) rfl fun v hE => ?_
            refine uCons ?_
            refine st_push hE (hf_c (a := (9 : Int)) rfl trivial) fun hE => ?_
            refine uCons (uLst (uCons ?_))
            refine st_push hE (hf_c (a := (4 : Int)) rfl trivial) fun hE => ?_
            refine uCons ?_
            refine st_push hE (hf_is (m := (powI (10 : Int) (9 : Int))) (m' := .ok (1000000000 : Int)) (hf_pp hr_pow (hf_c (a := (10 : Int)) rfl trivial) (hf_c (a := (9 : Int)) rfl trivial)) (by decide +kernel)) fun hE => ?_
            refine uCons ?_
            refine st_push hE (hf_is (m := (powI (10 : Int) (9 : Int))) (m' := .ok (1000000000 : Int)) (hf_pp hr_pow (hf_c (a := (10 : Int)) rfl trivial) (hf_c (a := (9 : Int)) rfl trivial)) (by decide +kernel)) fun hE => ?_
            refine uCons ?_
            refine st_push hE (hf_is (m := (powI (10 : Int) (9 : Int))) (m' := .ok (1000000000 : Int)) (hf_pp hr_pow (hf_c (a := (10 : Int)) rfl trivial) (hf_c (a := (9 : Int)) rfl trivial)) (by decide +kernel)) fun hE => ?_
            refine uCons ?_
            refine st_push hE (hf_is (m := (powI (10 : Int) (9 : Int))) (m' := .ok (1000000000 : Int)) (hf_pp hr_pow (hf_c (a := (10 : Int)) rfl trivial) (hf_c (a := (9 : Int)) rfl trivial)) (by decide +kernel)) fun hE => ?_
            refine uCons ?_
            refine st_push hE (hf_c (a := (9 : Int)) rfl trivial) fun hE => ?_
            refine uCons ?_
            refine st_push hE (hf_is (m := (powI (10 : Int) (9 : Int))) (m' := .ok (1000000000 : Int)) (hf_pp hr_pow (hf_c (a := (10 : Int)) rfl trivial) (hf_c (a := (9 : Int)) rfl trivial)) (by decide +kernel)) fun hE => ?_
            refine uCons ?_
            refine st_push hE (hf_is (m := (powI (10 : Int) (9 : Int))) (m' := .ok (1000000000 : Int)) (hf_pp hr_pow (hf_c (a := (10 : Int)) rfl trivial) (hf_c (a := (9 : Int)) rfl trivial)) (by decide +kernel)) fun hE => ?_
            refine uNil ?_
            refine st_lstI (α := Int) _ [(4 : Int), (1000000000 : Int), (1000000000 : Int), (1000000000 : Int), (1000000000 : Int), (9 : Int), (1000000000 : Int), (1000000000 : Int)] rfl (by decide : (8 : Nat) ≤ line) hE fun I H v hE => ?_
            refine uNil ?_
            refine st_call (cells, (9 : Int), [(4 : Int), (1000000000 : Int), (1000000000 : Int), (1000000000 : Int), (1000000000 : Int), (9 : Int), (1000000000 : Int), (1000000000 : Int)]) hE rfl rfl h (fun e x I' H' cls d hm z => x _ H' cls d hm z.clear) fun t63 I H v hE h => ?_
            refine st_freezeT hE fun I hE => ?_
            refine st_store (Γ' := [.im (script : Scr), .im (cells : (List Int)), .im (t1 : (List Int)), .im (limit : Int), .im (n : Int), .im (ys10 : (List Int)), .im (t11 : (List Int)), .im (t12 : (ML4 Int Int (List Int) (List Int))), .own (handed : (List Int)), .im (t18 : (List Int)), .im (most : Int), .im (t30 : Int), .im (t40 : Int), .im (t41 : (ML4 Int Int (List Int) (List Int))), .im (t42 : Int), .im (ys44 : (List Int)), .any, .im (ys51 : (List Int)), .im (t61 : (ML4 (List Int) Int Int (List (List Int)))), .im (t63 : (List Int)), .any, .any, .any, .any, .any]) hE rfl (by decide : (19 : Nat) < 25) fun σ hE => ?_
            refine uSeq (uAsg (uCallS (uCons ?_)))
            refine st_var hE (i := 19) rfl fun v hE => ?_
            refine uNil ?_
            refine st_call t63 hE rfl rfl h (fun e x I' H' cls d hm z => x _ H' cls d hm z.clear) fun t64 I H v hE h => ?_
            refine st_store (Γ' := [.im (script : Scr), .im (cells : (List Int)), .im (t1 : (List Int)), .im (limit : Int), .im (n : Int), .im (ys10 : (List Int)), .im (t11 : (List Int)), .im (t12 : (ML4 Int Int (List Int) (List Int))), .own (handed : (List Int)), .im (t18 : (List Int)), .im (most : Int), .im (t30 : Int), .im (t40 : Int), .im (t41 : (ML4 Int Int (List Int) (List Int))), .im (t42 : Int), .im (ys44 : (List Int)), .any, .im (ys51 : (List Int)), .im (t61 : (ML4 (List Int) Int Int (List (List Int)))), .im (t63 : (List Int)), .im (t64 : (List Int)), .any, .any, .any, .any]) hE rfl (by decide : (20 : Nat) < 25) fun σ hE => ?_
            refine uSeq (uIf (uNot (uB (uCallS (uCons ?_)))))
            refine st_pushm hE (hf_ixLp rfl (hf_c (a := (0 : Int)) rfl trivial)) h fun t65 hE h => ?_
            refine uCons ?_
            refine st_pushm hE (hf_ixLp rfl (hf_c (a := (1 : Int)) rfl trivial)) h fun t66 hE h => ?_
            refine uCons ?_
            refine st_pushm hE (hf_mm (fun _ _ => hr_add) (hf_mp (fun _ => hr_mul) (hf_ixLp rfl (hf_c (a := (6 : Int)) rfl trivial)) (hf_is (m := (powI (10 : Int) (9 : Int))) (m' := .ok (1000000000 : Int)) (hf_pp hr_pow (hf_c (a := (10 : Int)) rfl trivial) (hf_c (a := (9 : Int)) rfl trivial)) (by decide +kernel))) (hf_ixLp rfl (hf_c (a := (7 : Int)) rfl trivial))) h fun t70 hE h => ?_
            refine uNil ?_
            refine st_call (t65, t66, t70) hE rfl rfl h (fun e x I' H' cls d hm z => x _ H' cls d hm z.clear) fun t71 I H v hE h => ?_
            refine st_vb hE fun hE => ?_
            refine st_ite h (fun h => ?_) (fun h => ?_)
            ·
              exact st_ret hE (hf_c (a := false) rfl trivial) h
            ·
              refine uNext (uSeq (uAsg (uOp (uLst (uCons ?_)))))
              refine st_push hE (hf_c (a := (0 : Int)) rfl trivial) fun hE => ?_
              refine uCons ?_
              refine st_push hE (hf_up hu_neg (hf_c (a := (1 : Int)) rfl trivial)) fun hE => ?_
              refine uCons ?_
              refine st_push hE (hf_is (m := (.ok ((1000000000000000000 : Int) + (1 : Int)))) (m' := .ok (1000000000000000001 : Int)) (hf_pp hr_add (hf_is (m := (powI (10 : Int) (18 : Int))) (m' := .ok (1000000000000000000 : Int)) (hf_pp hr_pow (hf_c (a := (10 : Int)) rfl trivial) (hf_c (a := (18 : Int)) rfl trivial)) (by decide +kernel)) (hf_c (a := (1 : Int)) rfl trivial)) (by decide +kernel)) fun hE => ?_
              refine uCons ?_
              refine st_pushm hE (hf_pm (fun _ => hr_sub) (hf_up hu_neg (hf_c (a := (1 : Int)) rfl trivial)) (hf_ixLp rfl (hf_c (a := (1 : Int)) rfl trivial))) h fun t73 hE h => ?_
              refine uCons ?_
              refine st_pushm hE (hf_pm (fun _ => hr_add) (hf_is (m := (.ok ((1000000000000000000 : Int) + (1 : Int)))) (m' := .ok (1000000000000000001 : Int)) (hf_pp hr_add (hf_is (m := (powI (10 : Int) (18 : Int))) (m' := .ok (1000000000000000000 : Int)) (hf_pp hr_pow (hf_c (a := (10 : Int)) rfl trivial) (hf_c (a := (18 : Int)) rfl trivial)) (by decide +kernel)) (hf_c (a := (1 : Int)) rfl trivial)) (by decide +kernel)) (hf_ixLp rfl (hf_c (a := (1 : Int)) rfl trivial))) h fun t75 hE h => ?_
              refine uCons ?_
              refine st_push hE (hf_up hu_neg (hf_is (m := (powI (10 : Int) (39 : Int))) (m' := .ok (1000000000000000000000000000000000000000 : Int)) (hf_pp hr_pow (hf_c (a := (10 : Int)) rfl trivial) (hf_c (a := (39 : Int)) rfl trivial)) (by decide +kernel))) fun hE => ?_
              refine uNil ?_
              refine st_lstI (α := Int) _ [(0 : Int), (-(1 : Int)), (1000000000000000001 : Int), t73, t75, (-(1000000000000000000000000000000000000000 : Int))] rfl (by decide : (6 : Nat) ≤ line) hE fun I H v hE => ?_
              refine st_pushm hE (hf_ixLp rfl (hf_c (a := (6 : Int)) rfl trivial)) h fun t76 hE h => ?_
              refine st_ixL hE h fun t77 v hE h => ?_
              refine st_store (Γ' := [.im (script : Scr), .im (cells : (List Int)), .im (t1 : (List Int)), .im (limit : Int), .im (n : Int), .im (ys10 : (List Int)), .im (t11 : (List Int)), .im (t12 : (ML4 Int Int (List Int) (List Int))), .own (handed : (List Int)), .im (t18 : (List Int)), .im (most : Int), .im (t30 : Int), .im (t40 : Int), .im (t41 : (ML4 Int Int (List Int) (List Int))), .im (t42 : Int), .im (ys44 : (List Int)), .any, .im (ys51 : (List Int)), .im (t61 : (ML4 (List Int) Int Int (List (List Int)))), .im (t63 : (List Int)), .im (t64 : (List Int)), .im (t77 : Int), .any, .any, .any]) hE rfl (by decide : (21 : Nat) < 25) fun σ hE => ?_
              refine uSeq (uAsg (uOp (uLst (uCons ?_))))
              refine st_push hE (hf_up hu_neg (hf_c (a := (1 : Int)) rfl trivial)) fun hE => ?_
              refine uCons ?_
              refine st_push hE (hf_is (m := (.ok ((1000000000000000000 : Int) + (1 : Int)))) (m' := .ok (1000000000000000001 : Int)) (hf_pp hr_add (hf_is (m := (powI (10 : Int) (18 : Int))) (m' := .ok (1000000000000000000 : Int)) (hf_pp hr_pow (hf_c (a := (10 : Int)) rfl trivial) (hf_c (a := (18 : Int)) rfl trivial)) (by decide +kernel)) (hf_c (a := (1 : Int)) rfl trivial)) (by decide +kernel)) fun hE => ?_
              refine uCons ?_
              refine st_push hE (hf_up hu_neg (hf_c (a := (1 : Int)) rfl trivial)) fun hE => ?_
              refine uCons ?_
              refine st_push hE (hf_is (m := (.ok ((1000000000000000000 : Int) + (1 : Int)))) (m' := .ok (1000000000000000001 : Int)) (hf_pp hr_add (hf_is (m := (powI (10 : Int) (18 : Int))) (m' := .ok (1000000000000000000 : Int)) (hf_pp hr_pow (hf_c (a := (10 : Int)) rfl trivial) (hf_c (a := (18 : Int)) rfl trivial)) (by decide +kernel)) (hf_c (a := (1 : Int)) rfl trivial)) (by decide +kernel)) fun hE => ?_
              refine uCons ?_
              refine st_push hE (hf_up hu_neg (hf_c (a := (1 : Int)) rfl trivial)) fun hE => ?_
              refine uCons ?_
              refine st_push hE (hf_is (m := (.ok ((1000000000000000000 : Int) + (1 : Int)))) (m' := .ok (1000000000000000001 : Int)) (hf_pp hr_add (hf_is (m := (powI (10 : Int) (18 : Int))) (m' := .ok (1000000000000000000 : Int)) (hf_pp hr_pow (hf_c (a := (10 : Int)) rfl trivial) (hf_c (a := (18 : Int)) rfl trivial)) (by decide +kernel)) (hf_c (a := (1 : Int)) rfl trivial)) (by decide +kernel)) fun hE => ?_
              refine uNil ?_
              refine st_lstI (α := Int) _ [(-(1 : Int)), (1000000000000000001 : Int), (-(1 : Int)), (1000000000000000001 : Int), (-(1 : Int)), (1000000000000000001 : Int)] rfl (by decide : (6 : Nat) ≤ line) hE fun I H v hE => ?_
              refine st_pushm hE (hf_ixLp rfl (hf_c (a := (6 : Int)) rfl trivial)) h fun t78 hE h => ?_
              refine st_ixL hE h fun t79 v hE h => ?_
              refine st_store (Γ' := [.im (script : Scr), .im (cells : (List Int)), .im (t1 : (List Int)), .im (limit : Int), .im (n : Int), .im (ys10 : (List Int)), .im (t11 : (List Int)), .im (t12 : (ML4 Int Int (List Int) (List Int))), .own (handed : (List Int)), .im (t18 : (List Int)), .im (most : Int), .im (t30 : Int), .im (t40 : Int), .im (t41 : (ML4 Int Int (List Int) (List Int))), .im (t42 : Int), .im (ys44 : (List Int)), .any, .im (ys51 : (List Int)), .im (t61 : (ML4 (List Int) Int Int (List (List Int)))), .im (t63 : (List Int)), .im (t64 : (List Int)), .im (t77 : Int), .im (t79 : Int), .any, .any]) hE rfl (by decide : (22 : Nat) < 25) fun σ hE => ?_
              refine uSeq (uIf (uNot (uB (uCallS (uCons ?_)))))
              refine st_var hE (i := 5) rfl fun v hE => ?_
              refine uCons ?_
              refine st_pushm hE (hf_mp (fun _ => hr_mod) (hf_c1m (fun _ => hc_int) (hf_ixLp rfl (hf_c (a := (7 : Int)) rfl trivial))) (hf_lenL (hΓ := rfl))) h fun t82 hE h => ?_
              refine uCons ?_
              refine st_push hE (hf_var rfl) fun hE => ?_
              refine uCons ?_
              refine st_push hE (hf_var rfl) fun hE => ?_
              refine uCons ?_
              refine st_push hE (hf_var rfl) fun hE => ?_
              refine uNil ?_
              refine st_call (ys10, t82, t77, t79, n) hE rfl rfl h (fun e x I' H' cls d hm z => x _ H' cls d hm z.clear) fun t83 I H v hE h => ?_
              refine st_vb hE fun hE => ?_
              refine st_ite h (fun h => ?_) (fun h => ?_)
              ·
                exact st_ret hE (hf_c (a := false) rfl trivial) h
              ·
                refine uNext (uRet (uCallS (uCons (uCB (uCons ?_)))))
                refine st_var hE (i := 5) rfl fun v hE => ?_
                refine uNil ?_
                refine st_listI hE fun I H v hE => ?_
                replace hE := hE.listSeq
                refine uCons ?_
                refine st_push hE (hf_var rfl) fun hE => ?_
                refine uCons (uCallS (uCons ?_))
                refine st_var hE (i := 7) rfl fun v hE => ?_
                refine uNil ?_
                refine st_call t12 hE rfl rfl h (fun e x I' H' cls d hm z => x _ H' cls d hm z.clear.nip.nip) fun t84 I H v hE h => ?_
                refine uCons ?_
                refine st_var hE (i := 7) rfl fun v hE => ?_
                refine uCons (uLst (uNil ?_))
                refine st_lstI (α := (List Int)) [] [] rfl (Nat.zero_le _) hE fun I H v hE => ?_
                refine uCons ?_
                refine st_var hE (i := 6) rfl fun v hE => ?_
                refine uNil ?_
                refine st_call ((SeqL.mk ys10), n, t84, t12, ([] : List (List Int)), t11) hE rfl rfl h (fun e x I' H' cls d hm z => x _ H' cls d hm z.clear) fun t85 I H v hE h => ?_
                exact h _ _ _ hE.clear
end
end G
namespace G
open PySem PySem.Spec PyProof.Rows L2 M
section
variable {Pg : Program} {w : World} {K : PySem.W.Frag} {mg : Str → Option Value} {base h : Heap}
abbrev si_OutOfBounds : Stmt := (clsBody (top 2)).getD 0 (.Pass ⟨0, 0, 0, 0⟩)
theorem ok_ini_OutOfBounds {C fI : Addr} {fd : FuncData} (F : Fun K "__init__" "OutOfBounds.__init__" si_OutOfBounds fI fd) (T : OexC K C) (hno : PySem.W.findIn K (.ref C) "value" = some none) : FnOk Pg w K mg base (L2N.CX Pg w) 1 fI fd ["self", "value"] (spIni C "value") := by
  refine okN F (N := ["self", "value"]) ⟨rfl, rfl, rfl, by decide +kernel, rfl, by decide +kernel, by decide +kernel⟩ (fun vs H Q E h => by obtain ⟨a, y, rfl, _⟩ := h; rfl) fun cdv A outer s H vs Q E hr h => ?_
  obtain ⟨a, y, rfl, ea, h⟩ := h
  exact ⟨_, pss_one (ps_ost (pv 0) (pv 1)), y, rfl, .ref a, rfl, a, C, rfl, T, hno, .inl ⟨ea, fun dx n ne => h dx n ne⟩⟩
abbrev si_TooMany : Stmt := (clsBody (top 3)).getD 0 (.Pass ⟨0, 0, 0, 0⟩)
theorem ok_ini_TooMany {C fI : Addr} {fd : FuncData} (F : Fun K "__init__" "TooMany.__init__" si_TooMany fI fd) (T : OexC K C) (hno : PySem.W.findIn K (.ref C) "most" = some none) : FnOk Pg w K mg base (L2N.CX Pg w) 1 fI fd ["self", "most"] (spIni C "most") := by
  refine okN F (N := ["self", "most"]) ⟨rfl, rfl, rfl, by decide +kernel, rfl, by decide +kernel, by decide +kernel⟩ (fun vs H Q E h => by obtain ⟨a, y, rfl, _⟩ := h; rfl) fun cdv A outer s H vs Q E hr h => ?_
  obtain ⟨a, y, rfl, ea, h⟩ := h
  exact ⟨_, pss_one (ps_ost (pv 0) (pv 1)), y, rfl, .ref a, rfl, a, C, rfl, T, hno, .inl ⟨ea, fun dx n ne => h dx n ne⟩⟩
theorem all_mk {fa : Addr} (X : K.In h) (G : h.Ns mainGlobals mg) (hfa : mg "law" = some (.ref fa))
    {f_check_range : Addr} {od_check_range an_check_range : Option Addr} {sl_check_range : Array (Option Value)} {oc_check_range kV_check_range dc_check_range pm_check_range cd_check_range ct_check_range : Value}
    {f_check_many : Addr} {od_check_many an_check_many : Option Addr} {sl_check_many : Array (Option Value)} {oc_check_many kV_check_many dc_check_many pm_check_many cd_check_many ct_check_many : Value}
    {f_check_periods : Addr} {od_check_periods an_check_periods : Option Addr} {sl_check_periods : Array (Option Value)} {oc_check_periods kV_check_periods dc_check_periods pm_check_periods cd_check_periods ct_check_periods : Value}
    {f_require_period : Addr} {od_require_period an_require_period : Option Addr} {sl_require_period : Array (Option Value)} {oc_require_period kV_require_period dc_require_period pm_require_period cd_require_period ct_require_period : Value}
    {f_rounds : Addr} {od_rounds an_rounds : Option Addr} {sl_rounds : Array (Option Value)} {oc_rounds kV_rounds dc_rounds pm_rounds cd_rounds ct_rounds : Value}
    {f_lessened : Addr} {od_lessened an_lessened : Option Addr} {sl_lessened : Array (Option Value)} {oc_lessened kV_lessened dc_lessened pm_lessened cd_lessened ct_lessened : Value}
    {f_classes : Addr} {od_classes an_classes : Option Addr} {sl_classes : Array (Option Value)} {oc_classes kV_classes dc_classes pm_classes cd_classes ct_classes : Value}
    {f_class_count : Addr} {od_class_count an_class_count : Option Addr} {sl_class_count : Array (Option Value)} {oc_class_count kV_class_count dc_class_count pm_class_count cd_class_count ct_class_count : Value}
    {f_class_at : Addr} {od_class_at an_class_at : Option Addr} {sl_class_at : Array (Option Value)} {oc_class_at kV_class_at dc_class_at pm_class_at cd_class_at ct_class_at : Value}
    {f_class_of : Addr} {od_class_of an_class_of : Option Addr} {sl_class_of : Array (Option Value)} {oc_class_of kV_class_of dc_class_of pm_class_of cd_class_of ct_class_of : Value}
    {f_law_dig : Addr} {od_law_dig an_law_dig : Option Addr} {sl_law_dig : Array (Option Value)} {oc_law_dig kV_law_dig dc_law_dig pm_law_dig cd_law_dig ct_law_dig : Value}
    {f_law_number : Addr} {od_law_number an_law_number : Option Addr} {sl_law_number : Array (Option Value)} {oc_law_number kV_law_number dc_law_number pm_law_number cd_law_number ct_law_number : Value}
    {f_law_closing : Addr} {od_law_closing an_law_closing : Option Addr} {sl_law_closing : Array (Option Value)} {oc_law_closing kV_law_closing dc_law_closing pm_law_closing cd_law_closing ct_law_closing : Value}
    {f_law_firsts : Addr} {od_law_firsts an_law_firsts : Option Addr} {sl_law_firsts : Array (Option Value)} {oc_law_firsts kV_law_firsts dc_law_firsts pm_law_firsts cd_law_firsts ct_law_firsts : Value}
    {f_law_below : Addr} {od_law_below an_law_below : Option Addr} {sl_law_below : Array (Option Value)} {oc_law_below kV_law_below dc_law_below pm_law_below cd_law_below ct_law_below : Value}
    {f_law_table : Addr} {od_law_table an_law_table : Option Addr} {sl_law_table : Array (Option Value)} {oc_law_table kV_law_table dc_law_table pm_law_table cd_law_table ct_law_table : Value}
    {f_law_total : Addr} {od_law_total an_law_total : Option Addr} {sl_law_total : Array (Option Value)} {oc_law_total kV_law_total dc_law_total pm_law_total cd_law_total ct_law_total : Value}
    {f_law_code : Addr} {od_law_code an_law_code : Option Addr} {sl_law_code : Array (Option Value)} {oc_law_code kV_law_code dc_law_code pm_law_code cd_law_code ct_law_code : Value}
    {f_law_class : Addr} {od_law_class an_law_class : Option Addr} {sl_law_class : Array (Option Value)} {oc_law_class kV_law_class dc_law_class pm_law_class cd_law_class ct_law_class : Value}
    {f_law_led_on : Addr} {od_law_led_on an_law_led_on : Option Addr} {sl_law_led_on : Array (Option Value)} {oc_law_led_on kV_law_led_on dc_law_led_on pm_law_led_on cd_law_led_on ct_law_led_on : Value}
    {f_law_places : Addr} {od_law_places an_law_places : Option Addr} {sl_law_places : Array (Option Value)} {oc_law_places kV_law_places dc_law_places pm_law_places cd_law_places ct_law_places : Value}
    {f_law_asked : Addr} {od_law_asked an_law_asked : Option Addr} {sl_law_asked : Array (Option Value)} {oc_law_asked kV_law_asked dc_law_asked pm_law_asked cd_law_asked ct_law_asked : Value}
    {f_law_two : Addr} {od_law_two an_law_two : Option Addr} {sl_law_two : Array (Option Value)} {oc_law_two kV_law_two dc_law_two pm_law_two cd_law_two ct_law_two : Value}
    {f_law_gcd : Addr} {od_law_gcd an_law_gcd : Option Addr} {sl_law_gcd : Array (Option Value)} {oc_law_gcd kV_law_gcd dc_law_gcd pm_law_gcd cd_law_gcd ct_law_gcd : Value}
    {f_law_two_asked : Addr} {od_law_two_asked an_law_two_asked : Option Addr} {sl_law_two_asked : Array (Option Value)} {oc_law_two_asked kV_law_two_asked dc_law_two_asked pm_law_two_asked cd_law_two_asked ct_law_two_asked : Value}
    {f_law_told : Addr} {od_law_told an_law_told : Option Addr} {sl_law_told : Array (Option Value)} {oc_law_told kV_law_told dc_law_told pm_law_told cd_law_told ct_law_told : Value}
    {f_law_refused : Addr} {od_law_refused an_law_refused : Option Addr} {sl_law_refused : Array (Option Value)} {oc_law_refused kV_law_refused dc_law_refused pm_law_refused cd_law_refused ct_law_refused : Value}
    {f_law_refusals : Addr} {od_law_refusals an_law_refusals : Option Addr} {sl_law_refusals : Array (Option Value)} {oc_law_refusals kV_law_refusals dc_law_refusals pm_law_refusals cd_law_refusals ct_law_refusals : Value}
    {f_law : Addr} {od_law an_law : Option Addr} {sl_law : Array (Option Value)} {oc_law kV_law dc_law pm_law cd_law ct_law : Value}
    {C_OutOfBounds I_OutOfBounds N_OutOfBounds : Addr} {nm_OutOfBounds q_OutOfBounds : Str} {bs_OutOfBounds bm_OutOfBounds sub_OutOfBounds : List Value} {sn_OutOfBounds : List Str} {ab_OutOfBounds : Bool} {col_OutOfBounds : Option Bool} {dd_OutOfBounds : Option Addr} {m0_OutOfBounds m1_OutOfBounds m2_OutOfBounds m3_OutOfBounds m5_OutOfBounds : Option Value} {od_OutOfBounds an_OutOfBounds : Option Addr} {sl_OutOfBounds : Array (Option Value)} {oc_OutOfBounds dc_OutOfBounds pm_OutOfBounds cd_OutOfBounds ct_OutOfBounds kV_OutOfBounds : Value}
    {C_TooMany I_TooMany N_TooMany : Addr} {nm_TooMany q_TooMany : Str} {bs_TooMany bm_TooMany sub_TooMany : List Value} {sn_TooMany : List Str} {ab_TooMany : Bool} {col_TooMany : Option Bool} {dd_TooMany : Option Addr} {m0_TooMany m1_TooMany m2_TooMany m3_TooMany m5_TooMany : Option Value} {od_TooMany an_TooMany : Option Addr} {sl_TooMany : Array (Option Value)} {oc_TooMany dc_TooMany pm_TooMany cd_TooMany ct_TooMany kV_TooMany : Value}
    {C_NoPeriod : Addr}
    {C_WordError : Addr}
    {tk_LONGEST : Tok}
    {tk_MOST_PERIODS : Tok}
    (a_check_range : PySem.W.nsIn K mainGlobals "check_range" = some (some (.ref f_check_range)))
    (l_check_range : K.lookup f_check_range = some ⟨oc_check_range, od_check_range, .func (PySem.W.fnOf "check_range" "check_range" (defArgs s_check_range) (defBody s_check_range) (defScope s_check_range) .none kV_check_range dc_check_range pm_check_range an_check_range cd_check_range ct_check_range), sl_check_range⟩)
    (c_check_range : PySem.W.codeIn K cd_check_range "check_range" = true)
    (k_check_range : PySem.W.keepIn K (.ref f_check_range) = true)
    (a_check_many : PySem.W.nsIn K mainGlobals "check_many" = some (some (.ref f_check_many)))
    (l_check_many : K.lookup f_check_many = some ⟨oc_check_many, od_check_many, .func (PySem.W.fnOf "check_many" "check_many" (defArgs s_check_many) (defBody s_check_many) (defScope s_check_many) .none kV_check_many dc_check_many pm_check_many an_check_many cd_check_many ct_check_many), sl_check_many⟩)
    (c_check_many : PySem.W.codeIn K cd_check_many "check_many" = true)
    (k_check_many : PySem.W.keepIn K (.ref f_check_many) = true)
    (a_check_periods : PySem.W.nsIn K mainGlobals "check_periods" = some (some (.ref f_check_periods)))
    (l_check_periods : K.lookup f_check_periods = some ⟨oc_check_periods, od_check_periods, .func (PySem.W.fnOf "check_periods" "check_periods" (defArgs s_check_periods) (defBody s_check_periods) (defScope s_check_periods) .none kV_check_periods dc_check_periods pm_check_periods an_check_periods cd_check_periods ct_check_periods), sl_check_periods⟩)
    (c_check_periods : PySem.W.codeIn K cd_check_periods "check_periods" = true)
    (k_check_periods : PySem.W.keepIn K (.ref f_check_periods) = true)
    (a_require_period : PySem.W.nsIn K mainGlobals "require_period" = some (some (.ref f_require_period)))
    (l_require_period : K.lookup f_require_period = some ⟨oc_require_period, od_require_period, .func (PySem.W.fnOf "require_period" "require_period" (defArgs s_require_period) (defBody s_require_period) (defScope s_require_period) .none kV_require_period dc_require_period pm_require_period an_require_period cd_require_period ct_require_period), sl_require_period⟩)
    (c_require_period : PySem.W.codeIn K cd_require_period "require_period" = true)
    (k_require_period : PySem.W.keepIn K (.ref f_require_period) = true)
    (a_rounds : PySem.W.nsIn K mainGlobals "_rounds" = some (some (.ref f_rounds)))
    (l_rounds : K.lookup f_rounds = some ⟨oc_rounds, od_rounds, .func (PySem.W.fnOf "_rounds" "_rounds" (defArgs s_rounds) (defBody s_rounds) (defScope s_rounds) .none kV_rounds dc_rounds pm_rounds an_rounds cd_rounds ct_rounds), sl_rounds⟩)
    (c_rounds : PySem.W.codeIn K cd_rounds "_rounds" = true)
    (k_rounds : PySem.W.keepIn K (.ref f_rounds) = true)
    (a_lessened : PySem.W.nsIn K mainGlobals "_lessened" = some (some (.ref f_lessened)))
    (l_lessened : K.lookup f_lessened = some ⟨oc_lessened, od_lessened, .func (PySem.W.fnOf "_lessened" "_lessened" (defArgs s_lessened) (defBody s_lessened) (defScope s_lessened) .none kV_lessened dc_lessened pm_lessened an_lessened cd_lessened ct_lessened), sl_lessened⟩)
    (c_lessened : PySem.W.codeIn K cd_lessened "_lessened" = true)
    (k_lessened : PySem.W.keepIn K (.ref f_lessened) = true)
    (a_classes : PySem.W.nsIn K mainGlobals "_classes" = some (some (.ref f_classes)))
    (l_classes : K.lookup f_classes = some ⟨oc_classes, od_classes, .func (PySem.W.fnOf "_classes" "_classes" (defArgs s_classes) (defBody s_classes) (defScope s_classes) .none kV_classes dc_classes pm_classes an_classes cd_classes ct_classes), sl_classes⟩)
    (c_classes : PySem.W.codeIn K cd_classes "_classes" = true)
    (k_classes : PySem.W.keepIn K (.ref f_classes) = true)
    (a_class_count : PySem.W.nsIn K mainGlobals "class_count" = some (some (.ref f_class_count)))
    (l_class_count : K.lookup f_class_count = some ⟨oc_class_count, od_class_count, .func (PySem.W.fnOf "class_count" "class_count" (defArgs s_class_count) (defBody s_class_count) (defScope s_class_count) .none kV_class_count dc_class_count pm_class_count an_class_count cd_class_count ct_class_count), sl_class_count⟩)
    (c_class_count : PySem.W.codeIn K cd_class_count "class_count" = true)
    (k_class_count : PySem.W.keepIn K (.ref f_class_count) = true)
    (a_class_at : PySem.W.nsIn K mainGlobals "_class_at" = some (some (.ref f_class_at)))
    (l_class_at : K.lookup f_class_at = some ⟨oc_class_at, od_class_at, .func (PySem.W.fnOf "_class_at" "_class_at" (defArgs s_class_at) (defBody s_class_at) (defScope s_class_at) .none kV_class_at dc_class_at pm_class_at an_class_at cd_class_at ct_class_at), sl_class_at⟩)
    (c_class_at : PySem.W.codeIn K cd_class_at "_class_at" = true)
    (k_class_at : PySem.W.keepIn K (.ref f_class_at) = true)
    (a_class_of : PySem.W.nsIn K mainGlobals "class_of" = some (some (.ref f_class_of)))
    (l_class_of : K.lookup f_class_of = some ⟨oc_class_of, od_class_of, .func (PySem.W.fnOf "class_of" "class_of" (defArgs s_class_of) (defBody s_class_of) (defScope s_class_of) .none kV_class_of dc_class_of pm_class_of an_class_of cd_class_of ct_class_of), sl_class_of⟩)
    (c_class_of : PySem.W.codeIn K cd_class_of "class_of" = true)
    (k_class_of : PySem.W.keepIn K (.ref f_class_of) = true)
    (a_law_dig : PySem.W.nsIn K mainGlobals "_law_dig" = some (some (.ref f_law_dig)))
    (l_law_dig : K.lookup f_law_dig = some ⟨oc_law_dig, od_law_dig, .func (PySem.W.fnOf "_law_dig" "_law_dig" (defArgs s_law_dig) (defBody s_law_dig) (defScope s_law_dig) .none kV_law_dig dc_law_dig pm_law_dig an_law_dig cd_law_dig ct_law_dig), sl_law_dig⟩)
    (c_law_dig : PySem.W.codeIn K cd_law_dig "_law_dig" = true)
    (k_law_dig : PySem.W.keepIn K (.ref f_law_dig) = true)
    (a_law_number : PySem.W.nsIn K mainGlobals "_law_number" = some (some (.ref f_law_number)))
    (l_law_number : K.lookup f_law_number = some ⟨oc_law_number, od_law_number, .func (PySem.W.fnOf "_law_number" "_law_number" (defArgs s_law_number) (defBody s_law_number) (defScope s_law_number) .none kV_law_number dc_law_number pm_law_number an_law_number cd_law_number ct_law_number), sl_law_number⟩)
    (c_law_number : PySem.W.codeIn K cd_law_number "_law_number" = true)
    (k_law_number : PySem.W.keepIn K (.ref f_law_number) = true)
    (a_law_closing : PySem.W.nsIn K mainGlobals "_law_closing" = some (some (.ref f_law_closing)))
    (l_law_closing : K.lookup f_law_closing = some ⟨oc_law_closing, od_law_closing, .func (PySem.W.fnOf "_law_closing" "_law_closing" (defArgs s_law_closing) (defBody s_law_closing) (defScope s_law_closing) .none kV_law_closing dc_law_closing pm_law_closing an_law_closing cd_law_closing ct_law_closing), sl_law_closing⟩)
    (c_law_closing : PySem.W.codeIn K cd_law_closing "_law_closing" = true)
    (k_law_closing : PySem.W.keepIn K (.ref f_law_closing) = true)
    (a_law_firsts : PySem.W.nsIn K mainGlobals "_law_firsts" = some (some (.ref f_law_firsts)))
    (l_law_firsts : K.lookup f_law_firsts = some ⟨oc_law_firsts, od_law_firsts, .func (PySem.W.fnOf "_law_firsts" "_law_firsts" (defArgs s_law_firsts) (defBody s_law_firsts) (defScope s_law_firsts) .none kV_law_firsts dc_law_firsts pm_law_firsts an_law_firsts cd_law_firsts ct_law_firsts), sl_law_firsts⟩)
    (c_law_firsts : PySem.W.codeIn K cd_law_firsts "_law_firsts" = true)
    (k_law_firsts : PySem.W.keepIn K (.ref f_law_firsts) = true)
    (a_law_below : PySem.W.nsIn K mainGlobals "_law_below" = some (some (.ref f_law_below)))
    (l_law_below : K.lookup f_law_below = some ⟨oc_law_below, od_law_below, .func (PySem.W.fnOf "_law_below" "_law_below" (defArgs s_law_below) (defBody s_law_below) (defScope s_law_below) .none kV_law_below dc_law_below pm_law_below an_law_below cd_law_below ct_law_below), sl_law_below⟩)
    (c_law_below : PySem.W.codeIn K cd_law_below "_law_below" = true)
    (k_law_below : PySem.W.keepIn K (.ref f_law_below) = true)
    (a_law_table : PySem.W.nsIn K mainGlobals "_law_table" = some (some (.ref f_law_table)))
    (l_law_table : K.lookup f_law_table = some ⟨oc_law_table, od_law_table, .func (PySem.W.fnOf "_law_table" "_law_table" (defArgs s_law_table) (defBody s_law_table) (defScope s_law_table) .none kV_law_table dc_law_table pm_law_table an_law_table cd_law_table ct_law_table), sl_law_table⟩)
    (c_law_table : PySem.W.codeIn K cd_law_table "_law_table" = true)
    (k_law_table : PySem.W.keepIn K (.ref f_law_table) = true)
    (a_law_total : PySem.W.nsIn K mainGlobals "_law_total" = some (some (.ref f_law_total)))
    (l_law_total : K.lookup f_law_total = some ⟨oc_law_total, od_law_total, .func (PySem.W.fnOf "_law_total" "_law_total" (defArgs s_law_total) (defBody s_law_total) (defScope s_law_total) .none kV_law_total dc_law_total pm_law_total an_law_total cd_law_total ct_law_total), sl_law_total⟩)
    (c_law_total : PySem.W.codeIn K cd_law_total "_law_total" = true)
    (k_law_total : PySem.W.keepIn K (.ref f_law_total) = true)
    (a_law_code : PySem.W.nsIn K mainGlobals "_law_code" = some (some (.ref f_law_code)))
    (l_law_code : K.lookup f_law_code = some ⟨oc_law_code, od_law_code, .func (PySem.W.fnOf "_law_code" "_law_code" (defArgs s_law_code) (defBody s_law_code) (defScope s_law_code) .none kV_law_code dc_law_code pm_law_code an_law_code cd_law_code ct_law_code), sl_law_code⟩)
    (c_law_code : PySem.W.codeIn K cd_law_code "_law_code" = true)
    (k_law_code : PySem.W.keepIn K (.ref f_law_code) = true)
    (a_law_class : PySem.W.nsIn K mainGlobals "_law_class" = some (some (.ref f_law_class)))
    (l_law_class : K.lookup f_law_class = some ⟨oc_law_class, od_law_class, .func (PySem.W.fnOf "_law_class" "_law_class" (defArgs s_law_class) (defBody s_law_class) (defScope s_law_class) .none kV_law_class dc_law_class pm_law_class an_law_class cd_law_class ct_law_class), sl_law_class⟩)
    (c_law_class : PySem.W.codeIn K cd_law_class "_law_class" = true)
    (k_law_class : PySem.W.keepIn K (.ref f_law_class) = true)
    (a_law_led_on : PySem.W.nsIn K mainGlobals "_law_led_on" = some (some (.ref f_law_led_on)))
    (l_law_led_on : K.lookup f_law_led_on = some ⟨oc_law_led_on, od_law_led_on, .func (PySem.W.fnOf "_law_led_on" "_law_led_on" (defArgs s_law_led_on) (defBody s_law_led_on) (defScope s_law_led_on) .none kV_law_led_on dc_law_led_on pm_law_led_on an_law_led_on cd_law_led_on ct_law_led_on), sl_law_led_on⟩)
    (c_law_led_on : PySem.W.codeIn K cd_law_led_on "_law_led_on" = true)
    (k_law_led_on : PySem.W.keepIn K (.ref f_law_led_on) = true)
    (a_law_places : PySem.W.nsIn K mainGlobals "_law_places" = some (some (.ref f_law_places)))
    (l_law_places : K.lookup f_law_places = some ⟨oc_law_places, od_law_places, .func (PySem.W.fnOf "_law_places" "_law_places" (defArgs s_law_places) (defBody s_law_places) (defScope s_law_places) .none kV_law_places dc_law_places pm_law_places an_law_places cd_law_places ct_law_places), sl_law_places⟩)
    (c_law_places : PySem.W.codeIn K cd_law_places "_law_places" = true)
    (k_law_places : PySem.W.keepIn K (.ref f_law_places) = true)
    (a_law_asked : PySem.W.nsIn K mainGlobals "_law_asked" = some (some (.ref f_law_asked)))
    (l_law_asked : K.lookup f_law_asked = some ⟨oc_law_asked, od_law_asked, .func (PySem.W.fnOf "_law_asked" "_law_asked" (defArgs s_law_asked) (defBody s_law_asked) (defScope s_law_asked) .none kV_law_asked dc_law_asked pm_law_asked an_law_asked cd_law_asked ct_law_asked), sl_law_asked⟩)
    (c_law_asked : PySem.W.codeIn K cd_law_asked "_law_asked" = true)
    (k_law_asked : PySem.W.keepIn K (.ref f_law_asked) = true)
    (a_law_two : PySem.W.nsIn K mainGlobals "_law_two" = some (some (.ref f_law_two)))
    (l_law_two : K.lookup f_law_two = some ⟨oc_law_two, od_law_two, .func (PySem.W.fnOf "_law_two" "_law_two" (defArgs s_law_two) (defBody s_law_two) (defScope s_law_two) .none kV_law_two dc_law_two pm_law_two an_law_two cd_law_two ct_law_two), sl_law_two⟩)
    (c_law_two : PySem.W.codeIn K cd_law_two "_law_two" = true)
    (k_law_two : PySem.W.keepIn K (.ref f_law_two) = true)
    (a_law_gcd : PySem.W.nsIn K mainGlobals "_law_gcd" = some (some (.ref f_law_gcd)))
    (l_law_gcd : K.lookup f_law_gcd = some ⟨oc_law_gcd, od_law_gcd, .func (PySem.W.fnOf "_law_gcd" "_law_gcd" (defArgs s_law_gcd) (defBody s_law_gcd) (defScope s_law_gcd) .none kV_law_gcd dc_law_gcd pm_law_gcd an_law_gcd cd_law_gcd ct_law_gcd), sl_law_gcd⟩)
    (c_law_gcd : PySem.W.codeIn K cd_law_gcd "_law_gcd" = true)
    (k_law_gcd : PySem.W.keepIn K (.ref f_law_gcd) = true)
    (a_law_two_asked : PySem.W.nsIn K mainGlobals "_law_two_asked" = some (some (.ref f_law_two_asked)))
    (l_law_two_asked : K.lookup f_law_two_asked = some ⟨oc_law_two_asked, od_law_two_asked, .func (PySem.W.fnOf "_law_two_asked" "_law_two_asked" (defArgs s_law_two_asked) (defBody s_law_two_asked) (defScope s_law_two_asked) .none kV_law_two_asked dc_law_two_asked pm_law_two_asked an_law_two_asked cd_law_two_asked ct_law_two_asked), sl_law_two_asked⟩)
    (c_law_two_asked : PySem.W.codeIn K cd_law_two_asked "_law_two_asked" = true)
    (k_law_two_asked : PySem.W.keepIn K (.ref f_law_two_asked) = true)
    (a_law_told : PySem.W.nsIn K mainGlobals "_law_told" = some (some (.ref f_law_told)))
    (l_law_told : K.lookup f_law_told = some ⟨oc_law_told, od_law_told, .func (PySem.W.fnOf "_law_told" "_law_told" (defArgs s_law_told) (defBody s_law_told) (defScope s_law_told) .none kV_law_told dc_law_told pm_law_told an_law_told cd_law_told ct_law_told), sl_law_told⟩)
    (c_law_told : PySem.W.codeIn K cd_law_told "_law_told" = true)
    (k_law_told : PySem.W.keepIn K (.ref f_law_told) = true)
    (a_law_refused : PySem.W.nsIn K mainGlobals "_law_refused" = some (some (.ref f_law_refused)))
    (l_law_refused : K.lookup f_law_refused = some ⟨oc_law_refused, od_law_refused, .func (PySem.W.fnOf "_law_refused" "_law_refused" (defArgs s_law_refused) (defBody s_law_refused) (defScope s_law_refused) .none kV_law_refused dc_law_refused pm_law_refused an_law_refused cd_law_refused ct_law_refused), sl_law_refused⟩)
    (c_law_refused : PySem.W.codeIn K cd_law_refused "_law_refused" = true)
    (k_law_refused : PySem.W.keepIn K (.ref f_law_refused) = true)
    (a_law_refusals : PySem.W.nsIn K mainGlobals "_law_refusals" = some (some (.ref f_law_refusals)))
    (l_law_refusals : K.lookup f_law_refusals = some ⟨oc_law_refusals, od_law_refusals, .func (PySem.W.fnOf "_law_refusals" "_law_refusals" (defArgs s_law_refusals) (defBody s_law_refusals) (defScope s_law_refusals) .none kV_law_refusals dc_law_refusals pm_law_refusals an_law_refusals cd_law_refusals ct_law_refusals), sl_law_refusals⟩)
    (c_law_refusals : PySem.W.codeIn K cd_law_refusals "_law_refusals" = true)
    (k_law_refusals : PySem.W.keepIn K (.ref f_law_refusals) = true)
    (a_law : PySem.W.nsIn K mainGlobals "law" = some (some (.ref f_law)))
    (l_law : K.lookup f_law = some ⟨oc_law, od_law, .func (PySem.W.fnOf "law" "law" (defArgs s_law) (defBody s_law) (defScope s_law) .none kV_law dc_law pm_law an_law cd_law ct_law), sl_law⟩)
    (c_law : PySem.W.codeIn K cd_law "law" = true)
    (k_law : PySem.W.keepIn K (.ref f_law) = true)
    (hn0 : PySem.W.specialIn K (.builtin "object.__class__") "__get__" = some (some (.builtin "getset_descriptor.__get__")))
    (ht0 : PySem.W.takesIn K (.builtin "object.__class__") = some true)
    (a_OutOfBounds : PySem.W.nsIn K mainGlobals "OutOfBounds" = some (some (.ref C_OutOfBounds)))
    (x_OutOfBounds : K.lookup C_OutOfBounds = some (excClassObj nm_OutOfBounds q_OutOfBounds C_OutOfBounds N_OutOfBounds bs_OutOfBounds bm_OutOfBounds true sn_OutOfBounds sub_OutOfBounds ab_OutOfBounds col_OutOfBounds dd_OutOfBounds m0_OutOfBounds m1_OutOfBounds m2_OutOfBounds m3_OutOfBounds m5_OutOfBounds "ValueError.__new__"))
    (rv_OutOfBounds : PySem.HandSPX.refsVE bm_OutOfBounds = true)
    (sa_OutOfBounds : PySem.W.findIn K (.ref C_OutOfBounds) "__setattr__" = some (some (.builtin "object.__setattr__")))
    (ga_OutOfBounds : PySem.W.findIn K (.ref C_OutOfBounds) "__getattribute__" = some (some (.builtin "BaseException.__getattribute__")))
    (gg_OutOfBounds : PySem.W.findIn K (.ref C_OutOfBounds) "__getattr__" = some none)
    (nb_OutOfBounds : PySem.W.findIn K (.ref C_OutOfBounds) "value" = some none)
    (i_OutOfBounds : PySem.W.findIn K (.ref C_OutOfBounds) "__init__" = some (some (.ref I_OutOfBounds)))
    (t_OutOfBounds : PySem.W.typeIn K (.ref I_OutOfBounds) = some (.type "function"))
    (l_OutOfBounds : K.lookup I_OutOfBounds = some ⟨oc_OutOfBounds, od_OutOfBounds, .func (PySem.W.fnOf "__init__" "OutOfBounds.__init__" (defArgs si_OutOfBounds) (defBody si_OutOfBounds) (defScope si_OutOfBounds) .none kV_OutOfBounds dc_OutOfBounds pm_OutOfBounds an_OutOfBounds cd_OutOfBounds ct_OutOfBounds), sl_OutOfBounds⟩)
    (c_OutOfBounds : PySem.W.codeIn K cd_OutOfBounds "OutOfBounds.__init__" = true)
    (ki_OutOfBounds : PySem.W.keepIn K (.ref I_OutOfBounds) = true)
    (kC_OutOfBounds : PySem.W.keepIn K (.ref C_OutOfBounds) = true)
    (eC_OutOfBounds : PySem.W.subIn K (.ref C_OutOfBounds) (.type "BaseException") = some true)
    (tC_OutOfBounds : PySem.W.typeIn K (.ref C_OutOfBounds) = some (.type "type"))
    (hC_OutOfBounds : PySem.W.hasDictIn K C_OutOfBounds = true)
    (ha_OutOfBounds : PySem.W.findIn K (.ref C_OutOfBounds) "__class__" = some (some (.builtin "object.__class__")))
    (hm_OutOfBounds : PySem.W.mroIn K C_OutOfBounds (.type "object") = some true)
    (a_TooMany : PySem.W.nsIn K mainGlobals "TooMany" = some (some (.ref C_TooMany)))
    (x_TooMany : K.lookup C_TooMany = some (excClassObj nm_TooMany q_TooMany C_TooMany N_TooMany bs_TooMany bm_TooMany true sn_TooMany sub_TooMany ab_TooMany col_TooMany dd_TooMany m0_TooMany m1_TooMany m2_TooMany m3_TooMany m5_TooMany "ValueError.__new__"))
    (rv_TooMany : PySem.HandSPX.refsVE bm_TooMany = true)
    (sa_TooMany : PySem.W.findIn K (.ref C_TooMany) "__setattr__" = some (some (.builtin "object.__setattr__")))
    (ga_TooMany : PySem.W.findIn K (.ref C_TooMany) "__getattribute__" = some (some (.builtin "BaseException.__getattribute__")))
    (gg_TooMany : PySem.W.findIn K (.ref C_TooMany) "__getattr__" = some none)
    (nb_TooMany : PySem.W.findIn K (.ref C_TooMany) "most" = some none)
    (i_TooMany : PySem.W.findIn K (.ref C_TooMany) "__init__" = some (some (.ref I_TooMany)))
    (t_TooMany : PySem.W.typeIn K (.ref I_TooMany) = some (.type "function"))
    (l_TooMany : K.lookup I_TooMany = some ⟨oc_TooMany, od_TooMany, .func (PySem.W.fnOf "__init__" "TooMany.__init__" (defArgs si_TooMany) (defBody si_TooMany) (defScope si_TooMany) .none kV_TooMany dc_TooMany pm_TooMany an_TooMany cd_TooMany ct_TooMany), sl_TooMany⟩)
    (c_TooMany : PySem.W.codeIn K cd_TooMany "TooMany.__init__" = true)
    (ki_TooMany : PySem.W.keepIn K (.ref I_TooMany) = true)
    (kC_TooMany : PySem.W.keepIn K (.ref C_TooMany) = true)
    (eC_TooMany : PySem.W.subIn K (.ref C_TooMany) (.type "BaseException") = some true)
    (tC_TooMany : PySem.W.typeIn K (.ref C_TooMany) = some (.type "type"))
    (hC_TooMany : PySem.W.hasDictIn K C_TooMany = true)
    (ha_TooMany : PySem.W.findIn K (.ref C_TooMany) "__class__" = some (some (.builtin "object.__class__")))
    (hm_TooMany : PySem.W.mroIn K C_TooMany (.type "object") = some true)
    (a_NoPeriod : PySem.W.nsIn K mainGlobals "NoPeriod" = some (some (.ref C_NoPeriod)))
    (qx_NoPeriod : PySem.W.excIn K C_NoPeriod [.type "ValueError", .type "Exception", .type "BaseException", .type "object"] "ValueError.__new__" = true)
    (ga_NoPeriod : PySem.W.findIn K (.ref C_NoPeriod) "__getattribute__" = some (some (.builtin "BaseException.__getattribute__")))
    (gg_NoPeriod : PySem.W.findIn K (.ref C_NoPeriod) "__getattr__" = some none)
    (kC_NoPeriod : PySem.W.keepIn K (.ref C_NoPeriod) = true)
    (eC_NoPeriod : PySem.W.subIn K (.ref C_NoPeriod) (.type "BaseException") = some true)
    (tC_NoPeriod : PySem.W.typeIn K (.ref C_NoPeriod) = some (.type "type"))
    (hC_NoPeriod : PySem.W.hasDictIn K C_NoPeriod = true)
    (ha_NoPeriod : PySem.W.findIn K (.ref C_NoPeriod) "__class__" = some (some (.builtin "object.__class__")))
    (hm_NoPeriod : PySem.W.mroIn K C_NoPeriod (.type "object") = some true)
    (a_WordError : PySem.W.nsIn K mainGlobals "WordError" = some (some (.ref C_WordError)))
    (eC_WordError : PySem.W.subIn K (.ref C_WordError) (.type "BaseException") = some true)
    (tC_WordError : PySem.W.typeIn K (.ref C_WordError) = some (.type "type"))
    (hC_WordError : PySem.W.hasDictIn K C_WordError = true)
    (S0_OutOfBounds : PySem.W.subIn K (.ref C_OutOfBounds) (.ref C_OutOfBounds) = some true)
    (S0_TooMany : PySem.W.subIn K (.ref C_TooMany) (.ref C_TooMany) = some true)
    (S0_NoPeriod : PySem.W.subIn K (.ref C_NoPeriod) (.ref C_NoPeriod) = some true)
    (S_OutOfBounds_NoPeriod : PySem.W.subIn K (.ref C_OutOfBounds) (.ref C_NoPeriod) = some false)
    (S_TooMany_NoPeriod : PySem.W.subIn K (.ref C_TooMany) (.ref C_NoPeriod) = some false)
    (S_TooMany_OutOfBounds : PySem.W.subIn K (.ref C_TooMany) (.ref C_OutOfBounds) = some false)
    (S_NoPeriod_OutOfBounds : PySem.W.subIn K (.ref C_NoPeriod) (.ref C_OutOfBounds) = some false)
    (S_OutOfBounds_TooMany : PySem.W.subIn K (.ref C_OutOfBounds) (.ref C_TooMany) = some false)
    (S_NoPeriod_TooMany : PySem.W.subIn K (.ref C_NoPeriod) (.ref C_TooMany) = some false)
    (S_OutOfBounds_ValueError : PySem.W.subIn K (.ref C_OutOfBounds) (.type "ValueError") = some true)
    (S_TooMany_ValueError : PySem.W.subIn K (.ref C_TooMany) (.type "ValueError") = some true)
    (S_NoPeriod_ValueError : PySem.W.subIn K (.ref C_NoPeriod) (.type "ValueError") = some true)
    (S_OutOfBounds_WordError : PySem.W.subIn K (.ref C_OutOfBounds) (.ref C_WordError) = some true)
    (S_TooMany_WordError : PySem.W.subIn K (.ref C_TooMany) (.ref C_WordError) = some true)
    (S_NoPeriod_WordError : PySem.W.subIn K (.ref C_NoPeriod) (.ref C_WordError) = some true)
    (z_ValueError : PySem.W.nsIn K mainGlobals "ValueError" = some none)
    (z_abs : PySem.W.nsIn K mainGlobals "abs" = some none)
    (z_bool : PySem.W.nsIn K mainGlobals "bool" = some none)
    (z_int : PySem.W.nsIn K mainGlobals "int" = some none)
    (z_isinstance : PySem.W.nsIn K mainGlobals "isinstance" = some none)
    (z_len : PySem.W.nsIn K mainGlobals "len" = some none)
    (z_list : PySem.W.nsIn K mainGlobals "list" = some none)
    (z_max : PySem.W.nsIn K mainGlobals "max" = some none)
    (z_min : PySem.W.nsIn K mainGlobals "min" = some none)
    (z_range : PySem.W.nsIn K mainGlobals "range" = some none)
    (z_set : PySem.W.nsIn K mainGlobals "set" = some none)
    (z_sorted : PySem.W.nsIn K mainGlobals "sorted" = some none)
    (z_tuple : PySem.W.nsIn K mainGlobals "tuple" = some none)
    (v_LONGEST : PySem.W.nsIn K mainGlobals "LONGEST" = some (some (.int 1000000000000000000 tk_LONGEST)))
    (v_MOST_PERIODS : PySem.W.nsIn K mainGlobals "MOST_PERIODS" = some (some (.int 6 tk_MOST_PERIODS)))
    : ∃ fd : FuncData, (∀ (s : Shared) (v : Value), BindsTo s fd ⟨[v], []⟩ [("script", v)]) ∧ ∀ base : Heap, K.In base → base.Ns mainGlobals mg → FnOk Pg w K mg base (L2N.CX Pg w) 8 fa fd ["script"] (spLaw m_law K) := by
  have e := hfa.symm.trans (PySem.W.mg_of X G a_law)
  cases e
  have F_check_range := fun_mk (st := s_check_range) l_check_range c_check_range k_check_range
  have b_check_range := F_check_range.binds (ps := ["value", "low", "high"]) fun _ _ _ _ _ _ us hl => match us, hl with | [_, _, _], _ => rfl
  have F_check_many := fun_mk (st := s_check_many) l_check_many c_check_many k_check_many
  have b_check_many := F_check_many.binds (ps := ["things", "most"]) fun _ _ _ _ _ _ us hl => match us, hl with | [_, _], _ => rfl
  have F_check_periods := fun_mk (st := s_check_periods) l_check_periods c_check_periods k_check_periods
  have b_check_periods := F_check_periods.binds (ps := ["periods"]) fun _ _ _ _ _ _ us hl => match us, hl with | [_], _ => rfl
  have F_require_period := fun_mk (st := s_require_period) l_require_period c_require_period k_require_period
  have b_require_period := F_require_period.binds (ps := ["periods"]) fun _ _ _ _ _ _ us hl => match us, hl with | [_], _ => rfl
  have F_rounds := fun_mk (st := s_rounds) l_rounds c_rounds k_rounds
  have b_rounds := F_rounds.binds (ps := ["rows"]) fun _ _ _ _ _ _ us hl => match us, hl with | [_], _ => rfl
  have F_lessened := fun_mk (st := s_lessened) l_lessened c_lessened k_lessened
  have b_lessened := F_lessened.binds (ps := ["rows", "rounds"]) fun _ _ _ _ _ _ us hl => match us, hl with | [_, _], _ => rfl
  have F_classes := fun_mk (st := s_classes) l_classes c_classes k_classes
  have b_classes := F_classes.binds (ps := ["rows", "length"]) fun _ _ _ _ _ _ us hl => match us, hl with | [_, _], _ => rfl
  have F_class_count := fun_mk (st := s_class_count) l_class_count c_class_count k_class_count
  have b_class_count := F_class_count.binds (ps := ["periods", "length"]) fun _ _ _ _ _ _ us hl => match us, hl with | [_, _], _ => rfl
  have F_class_at := fun_mk (st := s_class_at) l_class_at c_class_at k_class_at
  have b_class_at := F_class_at.binds (ps := ["rows", "length", "place"]) fun _ _ _ _ _ _ us hl => match us, hl with | [_, _, _], _ => rfl
  have F_class_of := fun_mk (st := s_class_of) l_class_of c_class_of k_class_of
  have b_class_of := F_class_of.binds (ps := ["periods", "length", "place"]) fun _ _ _ _ _ _ us hl => match us, hl with | [_, _, _], _ => rfl
  have F_law_dig := fun_mk (st := s_law_dig) l_law_dig c_law_dig k_law_dig
  have b_law_dig := F_law_dig.binds (ps := ["cells", "place", "sizes"]) fun _ _ _ _ _ _ us hl => match us, hl with | [_, _, _], _ => rfl
  have F_law_number := fun_mk (st := s_law_number) l_law_number c_law_number k_law_number
  have b_law_number := F_law_number.binds (ps := ["told", "due"]) fun _ _ _ _ _ _ us hl => match us, hl with | [_, _], _ => rfl
  have F_law_closing := fun_mk (st := s_law_closing) l_law_closing c_law_closing k_law_closing
  have b_law_closing := F_law_closing.binds (ps := ["periods", "n"]) fun _ _ _ _ _ _ us hl => match us, hl with | [_, _], _ => rfl
  have F_law_firsts := fun_mk (st := s_law_firsts) l_law_firsts c_law_firsts k_law_firsts
  have b_law_firsts := F_law_firsts.binds (ps := ["marks"]) fun _ _ _ _ _ _ us hl => match us, hl with | [_], _ => rfl
  have F_law_below := fun_mk (st := s_law_below) l_law_below c_law_below k_law_below
  have b_law_below := F_law_below.binds (ps := ["firsts", "first"]) fun _ _ _ _ _ _ us hl => match us, hl with | [_, _], _ => rfl
  have F_law_table := fun_mk (st := s_law_table) l_law_table c_law_table k_law_table
  have b_law_table := F_law_table.binds (ps := ["periods", "n", "m", "more"]) fun _ _ _ _ _ _ us hl => match us, hl with | [_, _, _, _], _ => rfl
  have F_law_total := fun_mk (st := s_law_total) l_law_total c_law_total k_law_total
  have b_law_total := F_law_total.binds (ps := ["tab"]) fun _ _ _ _ _ _ us hl => match us, hl with | [_], _ => rfl
  have F_law_code := fun_mk (st := s_law_code) l_law_code c_law_code k_law_code
  have b_law_code := F_law_code.binds (ps := ["tab", "place"]) fun _ _ _ _ _ _ us hl => match us, hl with | [_, _], _ => rfl
  have F_law_class := fun_mk (st := s_law_class) l_law_class c_law_class k_law_class
  have b_law_class := F_law_class.binds (ps := ["tab", "steps", "place"]) fun _ _ _ _ _ _ us hl => match us, hl with | [_, _, _], _ => rfl
  have F_law_led_on := fun_mk (st := s_law_led_on) l_law_led_on c_law_led_on k_law_led_on
  have b_law_led_on := F_law_led_on.binds (ps := ["cells", "periods", "n", "total", "rounds"]) fun _ _ _ _ _ _ us hl => match us, hl with | [_, _, _, _, _], _ => rfl
  have F_law_places := fun_mk (st := s_law_places) l_law_places c_law_places k_law_places
  have b_law_places := F_law_places.binds (ps := ["n", "row"]) fun _ _ _ _ _ _ us hl => match us, hl with | [_, _], _ => rfl
  have F_law_asked := fun_mk (st := s_law_asked) l_law_asked c_law_asked k_law_asked
  have b_law_asked := F_law_asked.binds (ps := ["handed", "n", "total", "tab", "steps", "row"]) fun _ _ _ _ _ _ us hl => match us, hl with | [_, _, _, _, _, _], _ => rfl
  have F_law_two := fun_mk (st := s_law_two) l_law_two c_law_two k_law_two
  have b_law_two := F_law_two.binds (ps := ["row"]) fun _ _ _ _ _ _ us hl => match us, hl with | [_], _ => rfl
  have F_law_gcd := fun_mk (st := s_law_gcd) l_law_gcd c_law_gcd k_law_gcd
  have b_law_gcd := F_law_gcd.binds (ps := ["first", "second"]) fun _ _ _ _ _ _ us hl => match us, hl with | [_, _], _ => rfl
  have F_law_two_asked := fun_mk (st := s_law_two_asked) l_law_two_asked c_law_two_asked k_law_two_asked
  have b_law_two_asked := F_law_two_asked.binds (ps := ["low", "high", "draw"]) fun _ _ _ _ _ _ us hl => match us, hl with | [_, _, _], _ => rfl
  have F_law_told := fun_mk (st := s_law_told) l_law_told c_law_told k_law_told
  have b_law_told := F_law_told.binds (ps := ["which", "periods", "length", "place"]) fun _ _ _ _ _ _ us hl => match us, hl with | [_, _, _, _], _ => rfl
  have F_law_refused := fun_mk (st := s_law_refused) l_law_refused c_law_refused k_law_refused
  have b_law_refused := F_law_refused.binds (ps := ["told", "kind", "due"]) fun _ _ _ _ _ _ us hl => match us, hl with | [_, _, _], _ => rfl
  have F_law_refusals := fun_mk (st := s_law_refusals) l_law_refusals c_law_refusals k_law_refusals
  have b_law_refusals := F_law_refusals.binds (ps := ["periods", "at", "bad", "length", "n"]) fun _ _ _ _ _ _ us hl => match us, hl with | [_, _, _, _, _], _ => rfl
  have F_law := fun_mk (st := s_law) l_law c_law k_law
  have b_law := F_law.binds (ps := ["script"]) fun _ _ _ _ _ _ us hl => match us, hl with | [_], _ => rfl
  have T_OutOfBounds : OexC K C_OutOfBounds := ⟨⟨_, _, _, _, _, _, _, _, _, _, _, _, _, _, _, x_OutOfBounds, rv_OutOfBounds⟩, sa_OutOfBounds, eC_OutOfBounds, tC_OutOfBounds, kC_OutOfBounds⟩
  have F_OutOfBounds := fun_mk (st := si_OutOfBounds) l_OutOfBounds c_OutOfBounds ki_OutOfBounds
  have b_OutOfBounds := F_OutOfBounds.binds (ps := ["self", "value"]) fun _ _ _ _ _ _ us hl => match us, hl with | [_, _], _ => rfl
  have T_TooMany : OexC K C_TooMany := ⟨⟨_, _, _, _, _, _, _, _, _, _, _, _, _, _, _, x_TooMany, rv_TooMany⟩, sa_TooMany, eC_TooMany, tC_TooMany, kC_TooMany⟩
  have F_TooMany := fun_mk (st := si_TooMany) l_TooMany c_TooMany ki_TooMany
  have b_TooMany := F_TooMany.binds (ps := ["self", "most"]) fun _ _ _ _ _ _ us hl => match us, hl with | [_, _], _ => rfl
  let T : Txt Pg w K mg := {
    a_check_range := _,
    d_check_range := _,
    F_check_range := F_check_range,
    g_check_range := PySem.W.mg_of X G a_check_range,
    b_check_range := b_check_range,
    a_check_many := _,
    d_check_many := _,
    F_check_many := F_check_many,
    g_check_many := PySem.W.mg_of X G a_check_many,
    b_check_many := b_check_many,
    a_check_periods := _,
    d_check_periods := _,
    F_check_periods := F_check_periods,
    g_check_periods := PySem.W.mg_of X G a_check_periods,
    b_check_periods := b_check_periods,
    a_require_period := _,
    d_require_period := _,
    F_require_period := F_require_period,
    g_require_period := PySem.W.mg_of X G a_require_period,
    b_require_period := b_require_period,
    a_rounds := _,
    d_rounds := _,
    F_rounds := F_rounds,
    g_rounds := PySem.W.mg_of X G a_rounds,
    b_rounds := b_rounds,
    a_lessened := _,
    d_lessened := _,
    F_lessened := F_lessened,
    g_lessened := PySem.W.mg_of X G a_lessened,
    b_lessened := b_lessened,
    a_classes := _,
    d_classes := _,
    F_classes := F_classes,
    g_classes := PySem.W.mg_of X G a_classes,
    b_classes := b_classes,
    a_class_count := _,
    d_class_count := _,
    F_class_count := F_class_count,
    g_class_count := PySem.W.mg_of X G a_class_count,
    b_class_count := b_class_count,
    a_class_at := _,
    d_class_at := _,
    F_class_at := F_class_at,
    g_class_at := PySem.W.mg_of X G a_class_at,
    b_class_at := b_class_at,
    a_class_of := _,
    d_class_of := _,
    F_class_of := F_class_of,
    g_class_of := PySem.W.mg_of X G a_class_of,
    b_class_of := b_class_of,
    a_law_dig := _,
    d_law_dig := _,
    F_law_dig := F_law_dig,
    g_law_dig := PySem.W.mg_of X G a_law_dig,
    b_law_dig := b_law_dig,
    a_law_number := _,
    d_law_number := _,
    F_law_number := F_law_number,
    g_law_number := PySem.W.mg_of X G a_law_number,
    b_law_number := b_law_number,
    a_law_closing := _,
    d_law_closing := _,
    F_law_closing := F_law_closing,
    g_law_closing := PySem.W.mg_of X G a_law_closing,
    b_law_closing := b_law_closing,
    a_law_firsts := _,
    d_law_firsts := _,
    F_law_firsts := F_law_firsts,
    g_law_firsts := PySem.W.mg_of X G a_law_firsts,
    b_law_firsts := b_law_firsts,
    a_law_below := _,
    d_law_below := _,
    F_law_below := F_law_below,
    g_law_below := PySem.W.mg_of X G a_law_below,
    b_law_below := b_law_below,
    a_law_table := _,
    d_law_table := _,
    F_law_table := F_law_table,
    g_law_table := PySem.W.mg_of X G a_law_table,
    b_law_table := b_law_table,
    a_law_total := _,
    d_law_total := _,
    F_law_total := F_law_total,
    g_law_total := PySem.W.mg_of X G a_law_total,
    b_law_total := b_law_total,
    a_law_code := _,
    d_law_code := _,
    F_law_code := F_law_code,
    g_law_code := PySem.W.mg_of X G a_law_code,
    b_law_code := b_law_code,
    a_law_class := _,
    d_law_class := _,
    F_law_class := F_law_class,
    g_law_class := PySem.W.mg_of X G a_law_class,
    b_law_class := b_law_class,
    a_law_led_on := _,
    d_law_led_on := _,
    F_law_led_on := F_law_led_on,
    g_law_led_on := PySem.W.mg_of X G a_law_led_on,
    b_law_led_on := b_law_led_on,
    a_law_places := _,
    d_law_places := _,
    F_law_places := F_law_places,
    g_law_places := PySem.W.mg_of X G a_law_places,
    b_law_places := b_law_places,
    a_law_asked := _,
    d_law_asked := _,
    F_law_asked := F_law_asked,
    g_law_asked := PySem.W.mg_of X G a_law_asked,
    b_law_asked := b_law_asked,
    a_law_two := _,
    d_law_two := _,
    F_law_two := F_law_two,
    g_law_two := PySem.W.mg_of X G a_law_two,
    b_law_two := b_law_two,
    a_law_gcd := _,
    d_law_gcd := _,
    F_law_gcd := F_law_gcd,
    g_law_gcd := PySem.W.mg_of X G a_law_gcd,
    b_law_gcd := b_law_gcd,
    a_law_two_asked := _,
    d_law_two_asked := _,
    F_law_two_asked := F_law_two_asked,
    g_law_two_asked := PySem.W.mg_of X G a_law_two_asked,
    b_law_two_asked := b_law_two_asked,
    a_law_told := _,
    d_law_told := _,
    F_law_told := F_law_told,
    g_law_told := PySem.W.mg_of X G a_law_told,
    b_law_told := b_law_told,
    a_law_refused := _,
    d_law_refused := _,
    F_law_refused := F_law_refused,
    g_law_refused := PySem.W.mg_of X G a_law_refused,
    b_law_refused := b_law_refused,
    a_law_refusals := _,
    d_law_refusals := _,
    F_law_refusals := F_law_refusals,
    g_law_refusals := PySem.W.mg_of X G a_law_refusals,
    b_law_refusals := b_law_refusals,
    a_law := _,
    d_law := _,
    F_law := F_law,
    g_law := PySem.W.mg_of X G a_law,
    b_law := b_law,
    k_class_count_0 := kbn_of (n := 0) (ks := ["length", "periods"]) (ps := ["periods", "length"]) [1, 0] F_class_count (fun _ _ _ _ _ _ us ws h1 h2 => match us, ws, h1, h2 with | [], [_, _], _, _ => rfl),
    z_ValueError := PySem.W.mg_none_of X G z_ValueError,
    z_abs := PySem.W.mg_none_of X G z_abs,
    z_bool := PySem.W.mg_none_of X G z_bool,
    z_int := PySem.W.mg_none_of X G z_int,
    z_isinstance := PySem.W.mg_none_of X G z_isinstance,
    z_len := PySem.W.mg_none_of X G z_len,
    z_list := PySem.W.mg_none_of X G z_list,
    z_max := PySem.W.mg_none_of X G z_max,
    z_min := PySem.W.mg_none_of X G z_min,
    z_range := PySem.W.mg_none_of X G z_range,
    z_set := PySem.W.mg_none_of X G z_set,
    z_sorted := PySem.W.mg_none_of X G z_sorted,
    z_tuple := PySem.W.mg_none_of X G z_tuple,
    tk_LONGEST := tk_LONGEST,
    c_LONGEST := PySem.W.mg_of X G v_LONGEST,
    tk_MOST_PERIODS := tk_MOST_PERIODS,
    c_MOST_PERIODS := PySem.W.mg_of X G v_MOST_PERIODS,
    C_OutOfBounds := C_OutOfBounds,
    I_OutOfBounds := I_OutOfBounds,
    D_OutOfBounds := _,
    x_OutOfBounds := fun {base} => ⟨PySem.W.mg_of X G a_OutOfBounds, T_OutOfBounds, i_OutOfBounds, t_OutOfBounds, ok_ini_OutOfBounds F_OutOfBounds T_OutOfBounds nb_OutOfBounds, b_OutOfBounds, ⟨ga_OutOfBounds, gg_OutOfBounds, eC_OutOfBounds, hC_OutOfBounds, ha_OutOfBounds, hn0, ht0, hm_OutOfBounds⟩, ⟨ga_OutOfBounds, gg_OutOfBounds, eC_OutOfBounds, hC_OutOfBounds⟩, nb_OutOfBounds⟩,
    C_TooMany := C_TooMany,
    I_TooMany := I_TooMany,
    D_TooMany := _,
    x_TooMany := fun {base} => ⟨PySem.W.mg_of X G a_TooMany, T_TooMany, i_TooMany, t_TooMany, ok_ini_TooMany F_TooMany T_TooMany nb_TooMany, b_TooMany, ⟨ga_TooMany, gg_TooMany, eC_TooMany, hC_TooMany, ha_TooMany, hn0, ht0, hm_TooMany⟩, ⟨ga_TooMany, gg_TooMany, eC_TooMany, hC_TooMany⟩, nb_TooMany⟩,
    C_NoPeriod := C_NoPeriod,
    x_NoPeriod := ⟨PySem.W.mg_of X G a_NoPeriod, qx_NoPeriod, kC_NoPeriod, eC_NoPeriod, tC_NoPeriod, ⟨ga_NoPeriod, gg_NoPeriod, eC_NoPeriod, hC_NoPeriod, ha_NoPeriod, hn0, ht0, hm_NoPeriod⟩⟩,
    gC_NoPeriod := PySem.W.mg_of X G a_NoPeriod,
    gC_OutOfBounds := PySem.W.mg_of X G a_OutOfBounds,
    gC_TooMany := PySem.W.mg_of X G a_TooMany,
    C_WordError := C_WordError,
    gC_WordError := PySem.W.mg_of X G a_WordError,
    q_OutOfBounds_NoPeriod := kit_ref hC_NoPeriod tC_NoPeriod S_OutOfBounds_NoPeriod S0_OutOfBounds,
    q_TooMany_NoPeriod := kit_ref hC_NoPeriod tC_NoPeriod S_TooMany_NoPeriod S0_TooMany,
    q_NoPeriod_NoPeriod := kit_ref hC_NoPeriod tC_NoPeriod S0_NoPeriod S0_NoPeriod,
    q_OutOfBounds_OutOfBounds := kit_ref hC_OutOfBounds tC_OutOfBounds S0_OutOfBounds S0_OutOfBounds,
    q_TooMany_OutOfBounds := kit_ref hC_OutOfBounds tC_OutOfBounds S_TooMany_OutOfBounds S0_TooMany,
    q_NoPeriod_OutOfBounds := kit_ref hC_OutOfBounds tC_OutOfBounds S_NoPeriod_OutOfBounds S0_NoPeriod,
    q_OutOfBounds_TooMany := kit_ref hC_TooMany tC_TooMany S_OutOfBounds_TooMany S0_OutOfBounds,
    q_TooMany_TooMany := kit_ref hC_TooMany tC_TooMany S0_TooMany S0_TooMany,
    q_NoPeriod_TooMany := kit_ref hC_TooMany tC_TooMany S_NoPeriod_TooMany S0_NoPeriod,
    q_OutOfBounds_ValueError := kit_typ (by decide +kernel) S_OutOfBounds_ValueError,
    q_TooMany_ValueError := kit_typ (by decide +kernel) S_TooMany_ValueError,
    q_NoPeriod_ValueError := kit_typ (by decide +kernel) S_NoPeriod_ValueError,
    w_OutOfBounds_WordError := PySem.W.exm_ref eC_WordError hC_WordError tC_WordError S_OutOfBounds_WordError,
    w_TooMany_WordError := PySem.W.exm_ref eC_WordError hC_WordError tC_WordError S_TooMany_WordError,
    w_NoPeriod_WordError := PySem.W.exm_ref eC_WordError hC_WordError tC_WordError S_NoPeriod_WordError }
  exact ⟨PySem.W.fnOf "law" "law" (defArgs s_law) (defBody s_law) (defScope s_law) .none kV_law dc_law pm_law an_law cd_law ct_law, fun s v => .of_eq rfl, fun base _ _ => (ok_law (base := base) T).imp fun vs H Q E h => spLaw_sp h⟩
end
theorem walk {l : PySem.W.OpenLaw} {q : Program} {loose : List Str} {XP : (Str → Option Value) → Heap → Prop} {YP : World → Heap → Prop} {d : DefRec} {K : Params → PySem.W.Frag} (hn : l.most = some 63) (hdf : d.params.defaults = [])
    (hY : ∀ (w : World) (h : Heap), YP w h → (K w.params).In h)
    (F : ∀ (w : World) (mg : Str → Option Value) (fa : Addr) (h : Heap), (K w.params).In h → h.Ns mainGlobals mg → mg d.name = some (.ref fa) →
      ∃ fd : FuncData, (∀ (s : Shared) (u : Value), BindsTo s fd ⟨[u], []⟩ [("script", u)]) ∧ ∀ base : Heap, (K w.params).In base → base.Ns mainGlobals mg → FnOk l.prog w (K w.params) mg base (L2N.CX l.prog w) 8 fa fd ["script"] (spLaw m_law (K w.params))) :
    PySem.W.WalkO q loose XP YP l.row.toRowW d [] (fun f vs => PySem.call f vs) :=
  L2.walk_of (n := 63) (k := 8) (x := "script") (CX := fun w => L2N.CX l.prog w) (sp := fun w => spLaw m_law (K w.params)) hn (by decide) hdf ⟨rfl, by decide, by decide⟩ hY F (fun w H a ns hl _ hS => spLaw_of law_all (K w.params) H a ns hl hS) fun _ _ _ _ _ z => no_CX z
end G
open PySem PySem.W PyProof.Rows
set_option maxRecDepth 100000 in
set_option maxHeartbeats 0 in
theorem PySem.Challenge.cw_wordruns_k37_far_classes_holds : PySem.Challenge.rw_wordruns_k37_far_classes.Holds := by
  w_on; o_law; k_head; (case hw => w_witness2)
  k_fill
  refine G.walk (l := PySem.Challenge.rw_wordruns_k37_far_classes) rfl rfl (fun w h Y => PySem.W.kIn_of Y) ?F
  case F =>
    intro w mg fa h KX GG hmg
    refine' G.all_mk KX GG hmg ?a_check_range ?l_check_range ?c_check_range ?k_check_range ?a_check_many ?l_check_many ?c_check_many ?k_check_many ?a_check_periods ?l_check_periods ?c_check_periods ?k_check_periods ?a_require_period ?l_require_period ?c_require_period ?k_require_period ?a_rounds ?l_rounds ?c_rounds ?k_rounds ?a_lessened ?l_lessened ?c_lessened ?k_lessened ?a_classes ?l_classes ?c_classes ?k_classes ?a_class_count ?l_class_count ?c_class_count ?k_class_count ?a_class_at ?l_class_at ?c_class_at ?k_class_at ?a_class_of ?l_class_of ?c_class_of ?k_class_of ?a_law_dig ?l_law_dig ?c_law_dig ?k_law_dig ?a_law_number ?l_law_number ?c_law_number ?k_law_number ?a_law_closing ?l_law_closing ?c_law_closing ?k_law_closing ?a_law_firsts ?l_law_firsts ?c_law_firsts ?k_law_firsts ?a_law_below ?l_law_below ?c_law_below ?k_law_below ?a_law_table ?l_law_table ?c_law_table ?k_law_table ?a_law_total ?l_law_total ?c_law_total ?k_law_total ?a_law_code ?l_law_code ?c_law_code ?k_law_code ?a_law_class ?l_law_class ?c_law_class ?k_law_class ?a_law_led_on ?l_law_led_on ?c_law_led_on ?k_law_led_on ?a_law_places ?l_law_places ?c_law_places ?k_law_places ?a_law_asked ?l_law_asked ?c_law_asked ?k_law_asked ?a_law_two ?l_law_two ?c_law_two ?k_law_two ?a_law_gcd ?l_law_gcd ?c_law_gcd ?k_law_gcd ?a_law_two_asked ?l_law_two_asked ?c_law_two_asked ?k_law_two_asked ?a_law_told ?l_law_told ?c_law_told ?k_law_told ?a_law_refused ?l_law_refused ?c_law_refused ?k_law_refused ?a_law_refusals ?l_law_refusals ?c_law_refusals ?k_law_refusals ?a_law ?l_law ?c_law ?k_law ?hn0 ?ht0 ?a_OutOfBounds ?x_OutOfBounds ?rv_OutOfBounds ?sa_OutOfBounds ?ga_OutOfBounds ?gg_OutOfBounds ?nb_OutOfBounds ?i_OutOfBounds ?t_OutOfBounds ?l_OutOfBounds ?c_OutOfBounds ?ki_OutOfBounds ?kC_OutOfBounds ?eC_OutOfBounds ?tC_OutOfBounds ?hC_OutOfBounds ?ha_OutOfBounds ?hm_OutOfBounds ?a_TooMany ?x_TooMany ?rv_TooMany ?sa_TooMany ?ga_TooMany ?gg_TooMany ?nb_TooMany ?i_TooMany ?t_TooMany ?l_TooMany ?c_TooMany ?ki_TooMany ?kC_TooMany ?eC_TooMany ?tC_TooMany ?hC_TooMany ?ha_TooMany ?hm_TooMany ?a_NoPeriod ?qx_NoPeriod ?ga_NoPeriod ?gg_NoPeriod ?kC_NoPeriod ?eC_NoPeriod ?tC_NoPeriod ?hC_NoPeriod ?ha_NoPeriod ?hm_NoPeriod ?a_WordError ?eC_WordError ?tC_WordError ?hC_WordError ?S0_OutOfBounds ?S0_TooMany ?S0_NoPeriod ?S_OutOfBounds_NoPeriod ?S_TooMany_NoPeriod ?S_TooMany_OutOfBounds ?S_NoPeriod_OutOfBounds ?S_OutOfBounds_TooMany ?S_NoPeriod_TooMany ?S_OutOfBounds_ValueError ?S_TooMany_ValueError ?S_NoPeriod_ValueError ?S_OutOfBounds_WordError ?S_TooMany_WordError ?S_NoPeriod_WordError ?z_ValueError ?z_abs ?z_bool ?z_int ?z_isinstance ?z_len ?z_list ?z_max ?z_min ?z_range ?z_set ?z_sorted ?z_tuple ?v_LONGEST ?v_MOST_PERIODS
    (case a_check_range => k_is)
    (case l_check_range => k_is)
    (case c_check_range => k_is)
    (case k_check_range => k_is)
    (case a_check_many => k_is)
    (case l_check_many => k_is)
    (case c_check_many => k_is)
    (case k_check_many => k_is)
    (case a_check_periods => k_is)
    (case l_check_periods => k_is)
    (case c_check_periods => k_is)
    (case k_check_periods => k_is)
    (case a_require_period => k_is)
    (case l_require_period => k_is)
    (case c_require_period => k_is)
    (case k_require_period => k_is)
    (case a_rounds => k_is)
    (case l_rounds => k_is)
    (case c_rounds => k_is)
    (case k_rounds => k_is)
    (case a_lessened => k_is)
    (case l_lessened => k_is)
    (case c_lessened => k_is)
    (case k_lessened => k_is)
    (case a_classes => k_is)
    (case l_classes => k_is)
    (case c_classes => k_is)
    (case k_classes => k_is)
    (case a_class_count => k_is)
    (case l_class_count => k_is)
    (case c_class_count => k_is)
    (case k_class_count => k_is)
    (case a_class_at => k_is)
    (case l_class_at => k_is)
    (case c_class_at => k_is)
    (case k_class_at => k_is)
    (case a_class_of => k_is)
    (case l_class_of => k_is)
    (case c_class_of => k_is)
    (case k_class_of => k_is)
    (case a_law_dig => k_is)
    (case l_law_dig => k_is)
    (case c_law_dig => k_is)
    (case k_law_dig => k_is)
    (case a_law_number => k_is)
    (case l_law_number => k_is)
    (case c_law_number => k_is)
    (case k_law_number => k_is)
    (case a_law_closing => k_is)
    (case l_law_closing => k_is)
    (case c_law_closing => k_is)
    (case k_law_closing => k_is)
    (case a_law_firsts => k_is)
    (case l_law_firsts => k_is)
    (case c_law_firsts => k_is)
    (case k_law_firsts => k_is)
    (case a_law_below => k_is)
    (case l_law_below => k_is)
    (case c_law_below => k_is)
    (case k_law_below => k_is)
    (case a_law_table => k_is)
    (case l_law_table => k_is)
    (case c_law_table => k_is)
    (case k_law_table => k_is)
    (case a_law_total => k_is)
    (case l_law_total => k_is)
    (case c_law_total => k_is)
    (case k_law_total => k_is)
    (case a_law_code => k_is)
    (case l_law_code => k_is)
    (case c_law_code => k_is)
    (case k_law_code => k_is)
    (case a_law_class => k_is)
    (case l_law_class => k_is)
    (case c_law_class => k_is)
    (case k_law_class => k_is)
    (case a_law_led_on => k_is)
    (case l_law_led_on => k_is)
    (case c_law_led_on => k_is)
    (case k_law_led_on => k_is)
    (case a_law_places => k_is)
    (case l_law_places => k_is)
    (case c_law_places => k_is)
    (case k_law_places => k_is)
    (case a_law_asked => k_is)
    (case l_law_asked => k_is)
    (case c_law_asked => k_is)
    (case k_law_asked => k_is)
    (case a_law_two => k_is)
    (case l_law_two => k_is)
    (case c_law_two => k_is)
    (case k_law_two => k_is)
    (case a_law_gcd => k_is)
    (case l_law_gcd => k_is)
    (case c_law_gcd => k_is)
    (case k_law_gcd => k_is)
    (case a_law_two_asked => k_is)
    (case l_law_two_asked => k_is)
    (case c_law_two_asked => k_is)
    (case k_law_two_asked => k_is)
    (case a_law_told => k_is)
    (case l_law_told => k_is)
    (case c_law_told => k_is)
    (case k_law_told => k_is)
    (case a_law_refused => k_is)
    (case l_law_refused => k_is)
    (case c_law_refused => k_is)
    (case k_law_refused => k_is)
    (case a_law_refusals => k_is)
    (case l_law_refusals => k_is)
    (case c_law_refusals => k_is)
    (case k_law_refusals => k_is)
    (case a_law => k_is)
    (case l_law => k_is)
    (case c_law => k_is)
    (case k_law => k_is)
    (case hn0 => k_is)
    (case ht0 => k_is)
    (case a_OutOfBounds => k_is)
    (case x_OutOfBounds => k_is)
    (case rv_OutOfBounds => rfl)
    (case sa_OutOfBounds => k_is)
    (case ga_OutOfBounds => k_is)
    (case gg_OutOfBounds => k_is)
    (case nb_OutOfBounds => k_is)
    (case i_OutOfBounds => k_is)
    (case t_OutOfBounds => k_is)
    (case l_OutOfBounds => k_is)
    (case c_OutOfBounds => k_is)
    (case ki_OutOfBounds => k_is)
    (case kC_OutOfBounds => k_is)
    (case eC_OutOfBounds => k_is)
    (case tC_OutOfBounds => k_is)
    (case hC_OutOfBounds => k_is)
    (case ha_OutOfBounds => k_is)
    (case hm_OutOfBounds => k_is)
    (case a_TooMany => k_is)
    (case x_TooMany => k_is)
    (case rv_TooMany => rfl)
    (case sa_TooMany => k_is)
    (case ga_TooMany => k_is)
    (case gg_TooMany => k_is)
    (case nb_TooMany => k_is)
    (case i_TooMany => k_is)
    (case t_TooMany => k_is)
    (case l_TooMany => k_is)
    (case c_TooMany => k_is)
    (case ki_TooMany => k_is)
    (case kC_TooMany => k_is)
    (case eC_TooMany => k_is)
    (case tC_TooMany => k_is)
    (case hC_TooMany => k_is)
    (case ha_TooMany => k_is)
    (case hm_TooMany => k_is)
    (case a_NoPeriod => k_is)
    (case qx_NoPeriod => k_exc)
    (case ga_NoPeriod => k_is)
    (case gg_NoPeriod => k_is)
    (case kC_NoPeriod => k_is)
    (case eC_NoPeriod => k_is)
    (case tC_NoPeriod => k_is)
    (case hC_NoPeriod => k_is)
    (case ha_NoPeriod => k_is)
    (case hm_NoPeriod => k_is)
    (case a_WordError => k_is)
    (case eC_WordError => k_is)
    (case tC_WordError => k_is)
    (case hC_WordError => k_is)
    (case S0_OutOfBounds => first | rfl | k_is)
    (case S0_TooMany => first | rfl | k_is)
    (case S0_NoPeriod => first | rfl | k_is)
    (case S_OutOfBounds_NoPeriod => k_is)
    (case S_TooMany_NoPeriod => k_is)
    (case S_TooMany_OutOfBounds => k_is)
    (case S_NoPeriod_OutOfBounds => k_is)
    (case S_OutOfBounds_TooMany => k_is)
    (case S_NoPeriod_TooMany => k_is)
    (case S_OutOfBounds_ValueError => k_is)
    (case S_TooMany_ValueError => k_is)
    (case S_NoPeriod_ValueError => k_is)
    (case S_OutOfBounds_WordError => k_is)
    (case S_TooMany_WordError => k_is)
    (case S_NoPeriod_WordError => k_is)
    (case z_ValueError => k_is)
    (case z_abs => k_is)
    (case z_bool => k_is)
    (case z_int => k_is)
    (case z_isinstance => k_is)
    (case z_len => k_is)
    (case z_list => k_is)
    (case z_max => k_is)
    (case z_min => k_is)
    (case z_range => k_is)
    (case z_set => k_is)
    (case z_sorted => k_is)
    (case z_tuple => k_is)
    (case v_LONGEST => k_is)
    (case v_MOST_PERIODS => k_is)
