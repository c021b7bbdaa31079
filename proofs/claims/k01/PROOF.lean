import PyProof.Rows.All
import Wide.All
import OpenK.AllK
import Wide.FinOn
import HandS.ForMost
import HandS.ForSpec
import HandS.CallSlots
import HandS.ExcInit
import HandS.ExcIs
import HandS.ExcField
import HandS.HotCalls
import HandS.SortInts
import HandS.IsInst
import HandS.Defaults
import HandS.Wide
import HandS.Flow
import PyProof.Rows.StrRevDown
import HandS.Conv
import HandS.Style
import HandS.NamedTupSort
import HandS.StrMore
import HandS.Star
import KE.GoesEnum
import HandS.Replace
import KE.DataMinMax
import HandS.RaiseMore
import HandS.SetFor
import HandS.Gcd
import HandS.SortKw
import KE.DatumOrd
import PySem.Challenge.RW_wordruns_k01_roots_and_commuting
set_option Elab.async false
set_option linter.all false
set_option maxRecDepth 100000
set_option maxHeartbeats 4000000
/-! A small typed layer over HandS: results, representations, owned data, environments. -/
namespace M
open PySem PySem.Spec PyProof.Rows L2

/-! ### results of a mirrored def -/
structure Exn where
  cls : Str
  fs : List (Str × V)
  deriving DecidableEq
inductive Res (α : Type) : Type where
  | ok (a : α) | exc (e : Exn) | bad
  deriving DecidableEq
def Res.bind {α β : Type} (m : Res α) (f : α → Res β) : Res β := match m with | .ok a => f a | .exc e => .exc e | .bad => .bad
def wp {α : Type} (m : Res α) (P : α → Prop) (X : Exn → Prop) : Prop := match m with | .ok a => P a | .exc e => X e | .bad => False
@[simp] theorem Res.bind_ok {α β : Type} (a : α) (f : α → Res β) : (Res.ok a).bind f = f a := rfl
@[simp] theorem Res.bind_exc {α β : Type} (e : Exn) (f : α → Res β) : (Res.exc e).bind f = .exc e := rfl
@[simp] theorem Res.bind_bad {α β : Type} (f : α → Res β) : (Res.bad : Res α).bind f = .bad := rfl
theorem Res.bind_assoc {α β γ : Type} (m : Res α) (f : α → Res β) (g : β → Res γ) : (m.bind f).bind g = m.bind fun a => (f a).bind g := by cases m <;> rfl
theorem wp_bind {α β : Type} {m : Res α} {f : α → Res β} {P : β → Prop} {X : Exn → Prop} : wp (m.bind f) P X ↔ wp m (fun a => wp (f a) P X) X := by cases m <;> exact Iff.rfl
theorem wp_mono {α : Type} {m : Res α} {P P' : α → Prop} {X X' : Exn → Prop} (h : wp m P X) (hP : ∀ a, P a → P' a) (hX : ∀ e, X e → X' e) : wp m P' X' := by
  cases m with
  | ok a => exact hP a h
  | exc e => exact hX e h
  | bad => exact h
theorem wp_ok {α : Type} {a : α} {P : α → Prop} {X : Exn → Prop} (h : P a) : wp (.ok a) P X := h

/-- a value whose making is not looked at -/
noncomputable def clo {α : Type} (r : α) : α := Classical.choose (⟨r, rfl⟩ : ∃ x, x = r)
theorem clo_eq {α : Type} (r : α) : clo r = r := Classical.choose_spec (⟨r, rfl⟩ : ∃ x, x = r)

/-! ### representations -/
class Rep (α : Type) where
  rp : PySem.W.Frag → Hp → V → α → Prop
  mono : ∀ {K : PySem.W.Frag} {I J : Hp} {v : V} {a : α}, Same I J → rp K I v a → rp K J v a
/-- a value that needs no heap -/
class Sca (α : Type) where
  enc : α → V
  okv : α → Prop
instance (priority := high) scaInt : Sca Int := ⟨V.int, fun _ => True⟩
instance (priority := high) scaBool : Sca Bool := ⟨V.bl, fun _ => True⟩
instance (priority := high) scaUnit : Sca Unit := ⟨fun _ => V.non, fun _ => True⟩
/-- the greatest length of a list, a text -/
def line : Nat := 16777216
theorem line_eq : line = sizeLine := by rw [sizeLine_eq]; rfl
/-- a text: its codes -/
abbrev Tx : Type := List Nat
def mkS (w : Tx) : Str := ⟨List.toArray w⟩
instance (priority := high) scaTx : Sca Tx := ⟨fun w => V.str (mkS w), fun w => w.length ≤ line⟩
instance (priority := high) repSca {α : Type} [Sca α] : Rep α := ⟨fun _ _ v a => v = Sca.enc a ∧ Sca.okv a, fun _ h => h⟩
theorem Paired.monoR {α : Type} {f g : V → α → Prop} (h : ∀ v a, f v a → g v a) : ∀ {vs : List V} {xs : List α}, Paired f vs xs → Paired g vs xs
  | _, _, .nil => .nil
  | _, _, .cons r t => .cons (h _ _ r) (Paired.monoR h t)
theorem same_seqT {K : PySem.W.Frag} {H H' : Hp} {a : Addr} {xs : List V} (e : Same H H') (h : SqT K H a xs) : SqT K H' a xs := by
  rcases h with h | h
  · rcases h with h | ⟨o, h⟩
    · exact .inl (.inl (e _ _ h))
    · exact .inl (.inr ⟨o, e _ _ h⟩)
  · exact .inr h
/-- a list -/
instance repList {α : Type} [Rep α] : Rep (List α) where
  rp K I v xs := ∃ a vs, v = .ref a ∧ I a = some (.lst vs) ∧ Paired (fun v x => Rep.rp K I v x) vs xs
  mono := fun e ⟨a, vs, e1, h, p⟩ => ⟨a, vs, e1, e _ _ h, Paired.monoR (fun _ _ q => Rep.mono e q) p⟩
/-- the law's script -/
structure Scr where
  l : List Int
instance repScr : Rep Scr where
  rp K I v x := ∃ a, v = .ref a ∧ SqL K I a (x.l.map V.int)
  mono := fun e ⟨a, e1, h⟩ => ⟨a, e1, e.seq h⟩
/-- a tuple of any length, of one kind -/
structure TupL (α : Type) where
  l : List α
instance repTupL {α : Type} [Rep α] : Rep (TupL α) where
  rp K I v xs := ∃ a vs, v = .ref a ∧ SqT K I a vs ∧ Paired (fun v x => Rep.rp K I v x) vs xs.l
  mono := fun e ⟨a, vs, e1, h, p⟩ => ⟨a, vs, e1, same_seqT e h, Paired.monoR (fun _ _ q => Rep.mono e q) p⟩
/-- a pair, a triple -/
instance repPair {α β : Type} [Rep α] [Rep β] : Rep (α × β) where
  rp K I v x := ∃ a v1 v2, v = .ref a ∧ SqT K I a [v1, v2] ∧ Rep.rp K I v1 x.1 ∧ Rep.rp K I v2 x.2
  mono := fun e ⟨a, v1, v2, e1, h, p, q⟩ => ⟨a, v1, v2, e1, same_seqT e h, Rep.mono e p, Rep.mono e q⟩
structure T3 (α β γ : Type) where
  a : α
  b : β
  c : γ
  deriving DecidableEq
instance repT3 {α β γ : Type} [Rep α] [Rep β] [Rep γ] : Rep (T3 α β γ) where
  rp K I v x := ∃ a v1 v2 v3, v = .ref a ∧ SqT K I a [v1, v2, v3] ∧ Rep.rp K I v1 x.a ∧ Rep.rp K I v2 x.b ∧ Rep.rp K I v3 x.c
  mono := fun e ⟨a, v1, v2, v3, e1, h, p, q, r⟩ => ⟨a, v1, v2, v3, e1, same_seqT e h, Rep.mono e p, Rep.mono e q, Rep.mono e r⟩
instance repOpt {α : Type} [Rep α] : Rep (Option α) where
  rp K I v x := match x with | none => v = .non | some y => Rep.rp K I v y
  mono := fun {K I J v x} e h => by
    cases x with
    | none => exact h
    | some y => exact Rep.mono (α := α) e h

/-! ### owned data: it may be changed; fp: its addresses -/
class Own (α : Type) where
  ow : PySem.W.Frag → List Addr → Hp → Hp → V → α → Prop
  mono : ∀ {K : PySem.W.Frag} {fp : List Addr} {I H I' H' : Hp} {v : V} {a : α}, Same I I' → (∀ b ∈ fp, H' b = H b) → ow K fp I H v a → ow K fp I' H' v a
instance ownList {α : Type} [Rep α] : Own (List α) where
  ow K fp I H v xs := ∃ p vs, v = .ref p ∧ fp = [p] ∧ H p = some (.lst vs) ∧ Paired (fun v x => Rep.rp K I v x) vs xs
  mono := fun e k ⟨p, vs, e1, e2, h, q⟩ => ⟨p, vs, e1, e2, by subst e2; rw [k p (by simp)]; exact h, Paired.monoR (fun _ _ z => Rep.mono e z) q⟩

/-! ### environments -/
inductive Cell : Type 1 where
  | any
  | im {α : Type} [Rep α] (a : α)
  | own {α : Type} [Own α] (a : α) (pn : Option V := none)
def CellR (K : PySem.W.Frag) (I H : Hp) (fp : List Addr) (o : Option V) (c : Cell) : Prop := match c with
  | .any => fp = []
  | @Cell.im α _ a => fp = [] ∧ ∃ v, o = some v ∧ Rep.rp (α := α) K I v a
  | @Cell.own α _ a pn => ∃ v, o = some v ∧ (∀ w, pn = some w → v = w) ∧ Own.ow (α := α) K fp I H v a
abbrev Ent := Option V × Cell
def Ents (K : PySem.W.Frag) (I H : Hp) : List Ent → List (List Addr) → Prop
  | [], [] => True
  | e :: es, f :: fs => CellR K I H f e.1 e.2 ∧ Ents K I H es fs
  | _, _ => False
def EnvL (K : PySem.W.Frag) (I H : Hp) (es : List Ent) : Prop :=
  Same I H ∧ ∃ fs, Ents K I H es fs ∧ fs.flatten.Nodup ∧ ∀ a ∈ fs.flatten, I a = none ∧ H a ≠ none

section
variable {K : PySem.W.Frag} {I H I' H' : Hp} {e e' : Ent} {es es' : List Ent} {o : Option V} {v : V} {c : Cell}
theorem Ents.perm (p : es.Perm es') : ∀ {fs : List (List Addr)}, Ents K I H es fs → ∃ fs', fs.Perm fs' ∧ Ents K I H es' fs' := by
  induction p with
  | nil => exact fun {fs} h => ⟨fs, .refl _, h⟩
  | cons x _ ih =>
    intro fs h
    cases fs with
    | nil => exact h.elim
    | cons f fs =>
      obtain ⟨fs', p', h'⟩ := ih h.2
      exact ⟨f :: fs', p'.cons f, h.1, h'⟩
  | swap x y l =>
    intro fs h
    cases fs with
    | nil => exact h.elim
    | cons f fs =>
      cases fs with
      | nil => exact h.2.elim
      | cons g fs => exact ⟨g :: f :: fs, .swap _ _ _, h.2.1, h.1, h.2.2⟩
  | trans _ _ ih1 ih2 =>
    intro fs h
    obtain ⟨f1, p1, h1⟩ := ih1 h
    obtain ⟨f2, p2, h2⟩ := ih2 h1
    exact ⟨f2, p1.trans p2, h2⟩
theorem EnvL.perm (p : es.Perm es') (h : EnvL K I H es) : EnvL K I H es' := by
  obtain ⟨s, fs, h1, h2, h3⟩ := h
  obtain ⟨fs', p', h'⟩ := Ents.perm p h1
  have q := p'.flatten
  exact ⟨s, fs', h', q.nodup_iff.mp h2, fun a ha => h3 a (q.mem_iff.mpr ha)⟩
theorem EnvL.tail (h : EnvL K I H (e :: es)) : EnvL K I H es := by
  obtain ⟨s, fs, h1, h2, h3⟩ := h
  cases fs with
  | nil => exact h1.elim
  | cons f fs =>
    rw [List.flatten_cons] at h2 h3
    exact ⟨s, fs, h1.2, (List.nodup_append.mp h2).2.1, fun a ha => h3 a (List.mem_append_right _ ha)⟩
theorem EnvL.any (h : EnvL K I H es) : EnvL K I H ((o, .any) :: es) := by
  obtain ⟨s, fs, h1, h2, h3⟩ := h
  exact ⟨s, [] :: fs, ⟨rfl, h1⟩, h2, h3⟩
theorem EnvL.im {α : Type} [Rep α] {a : α} (h : EnvL K I H es) (r : Rep.rp K I v a) : EnvL K I H ((some v, .im a) :: es) := by
  obtain ⟨s, fs, h1, h2, h3⟩ := h
  exact ⟨s, [] :: fs, ⟨⟨rfl, v, rfl, r⟩, h1⟩, h2, h3⟩
theorem EnvL.get {α : Type} [Rep α] {a : α} (h : EnvL K I H ((o, .im a) :: es)) : ∃ v, o = some v ∧ Rep.rp K I v a := by
  obtain ⟨s, fs, h1, _⟩ := h
  cases fs with
  | nil => exact h1.elim
  | cons f fs => exact h1.1.2
theorem EnvL.mem {α : Type} [Rep α] {a : α} (h : EnvL K I H es) (m : (o, Cell.im a) ∈ es) : ∃ v, o = some v ∧ Rep.rp K I v a := by
  obtain ⟨l1, l2, e⟩ := List.append_of_mem m
  subst e
  exact (h.perm List.perm_middle).get
/-- what changes at most: new things, and what is owned by nobody here -/
structure Grow (I H I' H' : Hp) : Prop where
  im : Same I I'
  sub : Same I' H'
  old : ∀ a, H a ≠ none → I' a = I a
  keep : Same H H'
theorem Grow.refl (h : Same I H) : Grow I H I H := ⟨Same.refl _, h, fun _ _ => rfl, Same.refl _⟩
theorem Ents.mono (hI : Same I I') : ∀ {es : List Ent} {fs : List (List Addr)}, (∀ a ∈ fs.flatten, H' a = H a) → Ents K I H es fs → Ents K I' H' es fs
  | [], [], _, _ => trivial
  | [], _ :: _, _, h => h.elim
  | _ :: _, [], _, h => h.elim
  | e :: es, f :: fs, k, h => by
    rw [List.flatten_cons] at k
    refine ⟨?_, Ents.mono hI (fun a ha => k a (List.mem_append_right _ ha)) h.2⟩
    have h1 := h.1
    obtain ⟨o, c⟩ := e
    cases c with
    | any => exact h1
    | im a =>
      obtain ⟨e1, v, e2, r⟩ := h1
      exact ⟨e1, v, e2, Rep.mono hI r⟩
    | own a pn =>
      obtain ⟨v, e2, e3, r⟩ := h1
      exact ⟨v, e2, e3, Own.mono hI (fun b hb => k b (List.mem_append_left _ hb)) r⟩
theorem EnvL.grow (g : Grow I H I' H') (h : EnvL K I H es) : EnvL K I' H' es := by
  obtain ⟨s, fs, h1, h2, h3⟩ := h
  have k : ∀ a ∈ fs.flatten, H' a = H a := fun a ha => by
    cases e : H a with
    | none => exact absurd e (h3 a ha).2
    | some o => exact g.keep a o e
  refine ⟨g.sub, fs, Ents.mono g.im k h1, h2, fun a ha => ⟨?_, ?_⟩⟩
  · rw [g.old a (h3 a ha).2]
    exact (h3 a ha).1
  · rw [k a ha]
    exact (h3 a ha).2
/-- a new immutable object -/
theorem Grow.newI {p : Addr} {u : HO} (s : Same I H) (hp : H p = none) : Grow I H (upd I p u) (upd H p u) := by
  have hi : I p = none := by
    cases e : I p with
    | none => rfl
    | some o => rw [s p o e] at hp; cases hp
  refine ⟨fun a o e => ?_, fun a o e => ?_, fun a e => ?_, fun a o e => ?_⟩
  · rw [upd_ne (ne_of_none e hi)]; exact e
  · by_cases q : a = p
    · subst q; rw [upd_same] at e ⊢; exact e
    · rw [upd_ne q] at e ⊢; exact s a o e
  · exact upd_ne fun q => e (by rw [q]; exact hp)
  · rw [upd_ne (ne_of_none e hp)]; exact e
/-- a new object that I does not tell -/
theorem Grow.newH {p : Addr} {u : HO} (s : Same I H) (hp : H p = none) : Grow I H I (upd H p u) := by
  refine ⟨Same.refl _, fun a o e => ?_, fun _ _ => rfl, fun a o e => ?_⟩
  · rw [upd_ne (ne_of_none (s a o e) hp)]; exact s a o e
  · rw [upd_ne (ne_of_none e hp)]; exact e
theorem EnvL.none_of (h : EnvL K I H es) {p : Addr} (hp : H p = none) : I p = none := by
  cases e : I p with
  | none => rfl
  | some o => rw [h.1 p o e] at hp; cases hp
theorem EnvL.repin {α : Type} [Own α] {a : α} {pn pn' : Option V} (h : EnvL K I H ((some v, .own a pn) :: es)) (hp : ∀ w, pn' = some w → v = w) : EnvL K I H ((some v, .own a pn') :: es) := by
  obtain ⟨s, fs, h1, h2, h3⟩ := h
  cases fs with
  | nil => exact h1.elim
  | cons f fs =>
    obtain ⟨⟨w, e1, _, q⟩, h1⟩ := h1
    cases e1
    exact ⟨s, f :: fs, ⟨⟨v, rfl, hp, q⟩, h1⟩, h2, h3⟩
theorem EnvL.pin {α : Type} [Own α] {a : α} {pn : Option V} (h : EnvL K I H ((some v, .own a pn) :: es)) : ∀ w, pn = some w → v = w := by
  obtain ⟨s, fs, h1, h2, h3⟩ := h
  cases fs with
  | nil => exact h1.elim
  | cons f fs =>
    obtain ⟨⟨w, e1, e2, q⟩, h1⟩ := h1
    cases e1
    exact e2
/-- a new owned list -/
theorem EnvL.newL {α : Type} [Rep α] {p : Addr} {vs : List V} {xs : List α} (h : EnvL K I H es) (hp : H p = none) (r : Paired (fun v x => Rep.rp K I v x) vs xs) : EnvL K I (upd H p (.lst vs)) ((some (.ref p), .own xs) :: es) := by
  have hi := h.none_of hp
  obtain ⟨s, fs, h1, h2, h3⟩ := h.grow (Grow.newH (u := .lst vs) h.1 hp)
  obtain ⟨_, fs0, h10, h20, h30⟩ := h
  have g := Grow.newH (u := .lst vs) (I := I) ‹_› hp
  refine ⟨s, [p] :: fs0, ⟨⟨.ref p, rfl, (fun _ z => nomatch z), p, vs, rfl, rfl, upd_same, r⟩, Ents.mono (Same.refl _) (fun a ha => upd_ne fun q => (h30 a ha).2 (by rw [q]; exact hp)) h10⟩, ?_, fun a ha => ?_⟩
  · rw [List.flatten_cons]
    refine List.nodup_append.mpr ⟨by simp, h20, fun a ha b hb q => ?_⟩
    have e : a = p := by simpa using ha
    subst e
    subst q
    exact (h30 _ hb).2 hp
  · rw [List.flatten_cons] at ha
    rcases List.mem_append.mp ha with ha | ha
    · have e : a = p := by simpa using ha
      subst e
      exact ⟨hi, by rw [upd_same]; exact fun z => nomatch z⟩
    · exact ⟨(h30 a ha).1, by rw [upd_ne fun q => (h30 a ha).2 (by rw [q]; exact hp)]; exact (h30 a ha).2⟩
/-- an owned list: it is there, it may be changed -/
theorem EnvL.ownL {α : Type} [Rep α] {xs : List α} {pn : Option V} (h : EnvL K I H ((o, .own xs pn) :: es)) : ∃ p vs, o = some (.ref p) ∧ H p = some (.lst vs) ∧ I p = none ∧ Paired (fun v x => Rep.rp K I v x) vs xs ∧
    (∀ {I' H' : Hp}, Grow I H I' H' → ∀ (vs' : List V) {β : Type} [Rep β] (ys : List β), Paired (fun v x => Rep.rp K I' v x) vs' ys → EnvL K I' (upd H' p (.lst vs')) ((o, .own ys pn) :: es)) ∧
    EnvL K (upd I p (.lst vs)) H ((o, .im xs) :: es) := by
  obtain ⟨s, fs, h1, h2, h3⟩ := id h
  cases fs with
  | nil => exact h1.elim
  | cons f fs =>
    obtain ⟨⟨v, e1, e0, p, vs, e2, e3, hp, r⟩, h1⟩ := h1
    dsimp only at e1
    subst e1 e2 e3
    rw [List.flatten_cons] at h2 h3
    have hn := List.nodup_append.mp h2
    have pI := (h3 p (by simp)).1
    have npf : ∀ a ∈ fs.flatten, a ≠ p := fun a ha q => hn.2.2 p (by simp) a ha q.symm
    refine ⟨p, vs, rfl, hp, pI, r, fun {I' H'} g vs' β _ ys r' => ?_, ?_⟩
    · have pI' : I' p = none := by rw [g.old p (by rw [hp]; exact fun z => nomatch z)]; exact pI
      refine ⟨fun a u e => ?_, [p] :: fs, ⟨⟨.ref p, rfl, e0, p, vs', rfl, rfl, upd_same, r'⟩, Ents.mono g.im (fun a ha => ?_) h1⟩, by rw [List.flatten_cons]; exact h2, fun a ha => ?_⟩
      · rw [upd_ne (ne_of_none e pI')]
        exact g.sub a u e
      · rw [upd_ne (npf a ha)]
        cases e : H a with
        | none => exact absurd e (h3 a (List.mem_append_right _ ha)).2
        | some u => exact g.keep a u e
      · rw [List.flatten_cons] at ha
        have q := h3 a ha
        refine ⟨by rw [g.old a q.2]; exact q.1, ?_⟩
        by_cases hap : a = p
        · rw [hap, upd_same]; exact fun z => nomatch z
        · rw [upd_ne hap]
          cases e : H a with
          | none => exact absurd e q.2
          | some u => rw [g.keep a u e]; exact fun z => nomatch z
    · have sI : Same I (upd I p (.lst vs)) := fun a u e => by rw [upd_ne (ne_of_none e pI)]; exact e
      refine ⟨fun a u e => ?_, [] :: fs, ⟨⟨rfl, .ref p, rfl, p, vs, rfl, upd_same, Paired.monoR (fun _ _ z => Rep.mono sI z) r⟩, Ents.mono sI (fun _ _ => rfl) h1⟩, hn.2.1, fun a ha => ?_⟩
      · by_cases hap : a = p
        · rw [hap, upd_same] at e; rw [hap, hp]; exact e
        · rw [upd_ne hap] at e; exact s a u e
      · have q := h3 a (List.mem_append_right _ ha)
        exact ⟨by rw [upd_ne (npf a ha)]; exact q.1, q.2⟩
end
end M
namespace M
open PySem PySem.Spec PyProof.Rows L2

/-! ### environments by slots and a stack -/
theorem perm_at {α : Type _} : ∀ {l : List α} {i : Nat} {e : α}, l[i]? = some e → ∃ r, l.Perm (e :: r) ∧ ∀ e', (l.set i e').Perm (e' :: r)
  | [], _, _, h => by simp at h
  | a :: l, 0, e, h => by
    have q : a = e := by simpa using h
    subst q
    exact ⟨l, .refl _, fun _ => .refl _⟩
  | a :: l, i + 1, e, h => by
    obtain ⟨r, p1, p2⟩ := perm_at (l := l) (i := i) (e := e) (by simpa using h)
    exact ⟨a :: r, (p1.cons a).trans (.swap _ _ _), fun e' => ((p2 e').cons a).trans (.swap _ _ _)⟩
theorem zip_at {α β : Type _} : ∀ {l : List α} {m : List β} {i : Nat} {a : α} {b : β}, l[i]? = some a → m[i]? = some b → (l.zip m)[i]? = some (a, b)
  | [], _, _, _, _, h, _ => by simp at h
  | _ :: _, [], _, _, _, _, h => by simp at h
  | x :: l, y :: m, 0, a, b, h, h' => by
    have e1 : x = a := by simpa using h
    have e2 : y = b := by simpa using h'
    subst e1 e2
    rfl
  | x :: l, y :: m, i + 1, a, b, h, h' => by
    have := zip_at (l := l) (m := m) (i := i) (a := a) (b := b) (by simpa using h) (by simpa using h')
    simpa using this
theorem zip_set {α β : Type _} : ∀ {l : List α} {m : List β} {i : Nat} {a : α} {b : β}, (l.set i a).zip (m.set i b) = (l.zip m).set i (a, b)
  | [], _, _, _, _ => by simp
  | _ :: _, [], _, _, _ => by simp
  | x :: l, y :: m, 0, a, b => by simp
  | x :: l, y :: m, i + 1, a, b => by simp [zip_set (l := l) (m := m) (i := i)]
theorem set_same {α : Type _} : ∀ {l : List α} {i : Nat} {a : α}, l[i]? = some a → l.set i a = l
  | [], _, _, h => by simp at h
  | x :: l, 0, a, h => by
    have e : x = a := by simpa using h
    subst e
    rfl
  | x :: l, i + 1, a, h => by
    have := set_same (l := l) (i := i) (a := a) (by simpa using h)
    simp [this]

def Env (K : PySem.W.Frag) (I H : Hp) (σ : List (Option V)) (Γ : List Cell) (ρ : List (Option V)) (Θ : List Cell) : Prop :=
  σ.length = Γ.length ∧ ρ.length = Θ.length ∧ EnvL K I H (σ.zip Γ ++ ρ.zip Θ)
section
variable {K : PySem.W.Frag} {I H I' H' : Hp} {σ ρ τ : List (Option V)} {Γ Γ' Θ Δ : List Cell} {i : Nat} {o : Option V} {v : V} {c c' : Cell}
theorem Env.slot (E : Env K I H σ Γ ρ Θ) (h : Γ[i]? = some c) : ∃ o, σ[i]? = some o := by
  have hl : i < Γ.length := (List.getElem?_eq_some_iff.mp h).1
  exact ⟨σ[i]'(by rw [E.1]; exact hl), List.getElem?_eq_getElem _⟩
/-- the entry at a slot, alone -/
theorem Env.pick (E : Env K I H σ Γ ρ Θ) (h : Γ[i]? = some c) : ∃ o r, σ[i]? = some o ∧ EnvL K I H ((o, c) :: r) ∧
    ∀ {I' H' : Hp} (o' : Option V) (c' : Cell), EnvL K I' H' ((o', c') :: r) → Env K I' H' (σ.set i o') (Γ.set i c') ρ Θ := by
  obtain ⟨o, ho⟩ := E.slot h
  obtain ⟨r, p1, p2⟩ := perm_at (zip_at ho h)
  refine ⟨o, r ++ ρ.zip Θ, ho, E.2.2.perm (p1.append_right _), fun o' c' q => ⟨by simp [E.1], E.2.1, ?_⟩⟩
  rw [zip_set]
  exact q.perm ((p2 (o', c')).symm.append_right _)
theorem Env.get {α : Type} [Rep α] {a : α} (E : Env K I H σ Γ ρ Θ) (h : Γ[i]? = some (.im a)) : ∃ v, σ[i]? = some (some v) ∧ Rep.rp K I v a := by
  obtain ⟨o, r, ho, e, _⟩ := E.pick h
  obtain ⟨v, e1, q⟩ := e.get
  subst e1
  exact ⟨v, ho, q⟩
theorem Env.sca {α : Type} [Sca α] {a : α} (E : Env K I H σ Γ ρ Θ) (h : Γ[i]? = some (.im a)) : σ[i]? = some (some (Sca.enc a)) ∧ Sca.okv a := by
  obtain ⟨v, ho, q⟩ := E.get h
  have e : v = Sca.enc a ∧ Sca.okv a := q
  rw [ho, e.1]
  exact ⟨rfl, e.2⟩
theorem Env.same (E : Env K I H σ Γ ρ Θ) : Same I H := E.2.2.1
theorem Env.toStack (E : Env K I H σ Γ ρ Θ) (h : EnvL K I' H' ((o, c) :: (σ.zip Γ ++ ρ.zip Θ))) : Env K I' H' σ Γ (o :: ρ) (c :: Θ) :=
  ⟨E.1, by simp [E.2.1], h.perm List.perm_middle.symm⟩
theorem Env.push {α : Type} [Rep α] {a : α} (E : Env K I H σ Γ ρ Θ) (r : Rep.rp K I v a) : Env K I H σ Γ (some v :: ρ) (.im a :: Θ) := E.toStack (E.2.2.im r)
theorem Env.pushS {α : Type} [Sca α] (E : Env K I H σ Γ ρ Θ) {a : α} (ok : Sca.okv a) : Env K I H σ Γ (some (Sca.enc a) :: ρ) (.im a :: Θ) := E.push ⟨rfl, ok⟩
theorem Env.unstack (E : Env K I H σ Γ (o :: ρ) (c :: Θ)) : EnvL K I H ((o, c) :: (σ.zip Γ ++ ρ.zip Θ)) := E.2.2.perm List.perm_middle
theorem Env.len (E : Env K I H σ Γ (o :: ρ) (c :: Θ)) : ρ.length = Θ.length := by have := E.2.1; simpa using this
theorem Env.pop (E : Env K I H σ Γ (o :: ρ) (c :: Θ)) : Env K I H σ Γ ρ Θ := ⟨E.1, E.len, E.unstack.tail⟩
theorem Env.top {α : Type} [Rep α] {a : α} (E : Env K I H σ Γ (o :: ρ) (.im a :: Θ)) : ∃ v, o = some v ∧ Rep.rp K I v a := E.unstack.get
theorem Env.topR {α : Type} [Rep α] {a : α} (E : Env K I H σ Γ (some v :: ρ) (.im a :: Θ)) : Rep.rp K I v a := by
  obtain ⟨w, e, r⟩ := E.top
  cases e
  exact r
theorem Env.grow (g : Grow I H I' H') (E : Env K I H σ Γ ρ Θ) : Env K I' H' σ Γ ρ Θ := ⟨E.1, E.2.1, E.2.2.grow g⟩
theorem Env.newL {α : Type} [Rep α] {p : Addr} {vs : List V} {xs : List α} (E : Env K I H σ Γ ρ Θ) (hp : H p = none) (r : Paired (fun v x => Rep.rp K I v x) vs xs) : Env K I (upd H p (.lst vs)) σ Γ (some (.ref p) :: ρ) (.own xs :: Θ) :=
  E.toStack (E.2.2.newL hp r)
/-- the top of the stack to a slot -/
theorem Env.store (E : Env K I H σ Γ (o :: ρ) (c :: Θ)) (hi : i < Γ.length) (hΓ : Γ.set i c = Γ') : Env K I H (σ.set i o) Γ' ρ Θ := by
  subst hΓ
  have h : Γ[i]? = some Γ[i] := List.getElem?_eq_getElem hi
  obtain ⟨o1, ho⟩ := Env.slot E h
  obtain ⟨r, p1, p2⟩ := perm_at (zip_at ho h)
  refine ⟨by simp [E.1], E.len, ?_⟩
  rw [zip_set]
  have q := E.unstack
  have q2 : EnvL K I H ((o1, Γ[i]) :: ((o, c) :: (r ++ ρ.zip Θ))) := q.perm (((p1.append_right _).cons _).trans (.swap _ _ _))
  exact q2.tail.perm ((p2 (o, c)).symm.append_right (ρ.zip Θ))
theorem Env.setS {α : Type} [Sca α] {a : α} (E : Env K I H σ Γ ρ Θ) (ok : Sca.okv a) (hi : i < Γ.length) (hΓ : Γ.set i (.im a) = Γ') : Env K I H (σ.set i (some (Sca.enc a))) Γ' ρ Θ := (E.pushS ok).store hi hΓ
/-- an owned list at a slot -/
theorem Env.ownAt {α : Type} [Rep α] {xs : List α} {pn : Option V} (E : Env K I H σ Γ ρ Θ) (h : Γ[i]? = some (.own xs pn)) : ∃ p vs, σ[i]? = some (some (.ref p)) ∧ H p = some (.lst vs) ∧ I p = none ∧ Paired (fun v x => Rep.rp K I v x) vs xs ∧
    (∀ {I' H' : Hp}, Grow I H I' H' → ∀ (vs' : List V) {β : Type} [Rep β] (ys : List β), Paired (fun v x => Rep.rp K I' v x) vs' ys → Env K I' (upd H' p (.lst vs')) σ (Γ.set i (.own ys pn)) ρ Θ) ∧
    Env K (upd I p (.lst vs)) H σ (Γ.set i (.im xs)) ρ Θ := by
  obtain ⟨o, r, ho, e, back⟩ := E.pick h
  obtain ⟨p, vs, e1, hp, pI, q, ch, fz⟩ := e.ownL
  subst e1
  have ss : σ.set i (some (V.ref p)) = σ := set_same ho
  refine ⟨p, vs, ho, hp, pI, q, fun {I' H'} g vs' β _ ys r' => ?_, ?_⟩
  · have z := back _ _ (ch g vs' ys r')
    rw [ss] at z
    exact z
  · have z := back _ _ fz
    rw [ss] at z
    exact z
/-- forgetting -/
def Wk : List Cell → List Cell → Prop
  | [], [] => True
  | c :: Γ, d :: Γ' => (d = .any ∨ c = d) ∧ Wk Γ Γ'
  | _, _ => False
theorem EnvL.weak {es : List Ent} : ∀ {σ : List (Option V)} {Γ Γ' : List Cell}, σ.length = Γ.length → Wk Γ Γ' → EnvL K I H (σ.zip Γ ++ es) → EnvL K I H (σ.zip Γ' ++ es) ∧ σ.length = Γ'.length
  | [], [], [], _, _, h => ⟨h, rfl⟩
  | [], [], _ :: _, _, w, _ => w.elim
  | _ :: _, [], _, l, _, _ => by simp at l
  | [], _ :: _, _, l, _, _ => by simp at l
  | _ :: _, _ :: _, [], _, w, _ => w.elim
  | o :: σ, c :: Γ, d :: Γ', l, w, h => by
    have l' : σ.length = Γ.length := by simpa using l
    rcases w.1 with e | e
    · subst e
      obtain ⟨q, q2⟩ := EnvL.weak l' w.2 h.tail
      exact ⟨q.any, by simp [q2]⟩
    · subst e
      have h2 : EnvL K I H (σ.zip Γ ++ ((o, c) :: es)) := h.perm List.perm_middle.symm
      obtain ⟨q, q2⟩ := EnvL.weak (es := (o, c) :: es) l' w.2 h2
      exact ⟨q.perm List.perm_middle, by simp [q2]⟩
theorem Env.weak (E : Env K I H σ Γ ρ Θ) (w : Wk Γ Γ') : Env K I H σ Γ' ρ Θ := by
  obtain ⟨q, q2⟩ := EnvL.weak E.1 w E.2.2
  exact ⟨q2, E.2.1, q⟩
/-- into a call: the arguments are on the stack, the last one on top -/
theorem Env.enter {vs : List (Option V)} {cs : List Cell} (hl : vs.length = cs.length) (E : Env K I H σ Γ (vs.reverse ++ ρ) (cs.reverse ++ Θ)) : Env K I H vs cs (σ ++ ρ) (Γ ++ Θ) := by
  have l2 := E.2.1
  simp only [List.length_append, List.length_reverse] at l2
  refine ⟨hl, by simp [E.1]; omega, ?_⟩
  have q := E.2.2
  rw [List.zip_append (by simp [hl])] at q
  rw [List.zip_append E.1]
  have e : vs.reverse.zip cs.reverse = (vs.zip cs).reverse := (List.reverse_zipWith hl).symm
  rw [e] at q
  refine q.perm ?_
  have p1 : (σ.zip Γ ++ ((vs.zip cs).reverse ++ ρ.zip Θ)).Perm ((vs.zip cs).reverse ++ (σ.zip Γ ++ ρ.zip Θ)) := by
    rw [← List.append_assoc, ← List.append_assoc]
    exact List.perm_append_comm.append_right _
  exact p1.trans ((List.reverse_perm _).append_right _)
theorem EnvL.drop {es : List Ent} : ∀ {l : List Ent}, EnvL K I H (l ++ es) → EnvL K I H es
  | [], h => h
  | _ :: l, h => EnvL.drop (l := l) h.tail
/-- out of a call: its parameters are gone, its value on the stack -/
theorem Env.leave {vs : List (Option V)} {cs : List Cell} (hl : σ.length = Γ.length) (E : Env K I H vs cs (o :: (σ ++ ρ)) (c :: (Γ ++ Θ))) : Env K I H σ Γ (o :: ρ) (c :: Θ) := by
  have q : EnvL K I H ((o, c) :: ((σ ++ ρ).zip (Γ ++ Θ))) := EnvL.drop E.2.2
  have l2 := E.2.1
  simp only [List.length_cons, List.length_append] at l2
  rw [List.zip_append hl] at q
  exact ⟨hl, by simp; omega, q.perm List.perm_middle.symm⟩
theorem Env.leave0 {vs : List (Option V)} {cs : List Cell} (hl : σ.length = Γ.length) (E : Env K I H vs cs (σ ++ ρ) (Γ ++ Θ)) : Env K I H σ Γ ρ Θ := by
  have q : EnvL K I H ((σ ++ ρ).zip (Γ ++ Θ)) := EnvL.drop E.2.2
  have l2 := E.2.1
  simp only [List.length_append] at l2
  rw [List.zip_append hl] at q
  exact ⟨hl, by omega, q⟩
/-- the locals that a def has beside its parameters -/
theorem Env.locals {n : Nat} (E : Env K I H σ Γ ρ Θ) : Env K I H (σ ++ List.replicate n none) (Γ ++ List.replicate n .any) ρ Θ := by
  refine ⟨by simp [E.1], E.2.1, ?_⟩
  rw [List.zip_append E.1]
  have all : ∀ n, EnvL K I H ((List.replicate n (none : Option V)).zip (List.replicate n Cell.any) ++ (σ.zip Γ ++ ρ.zip Θ)) := by
    intro n
    induction n with
    | zero => exact E.2.2
    | succ n ih => exact ih.any
  have q := all n
  refine q.perm ?_
  rw [← List.append_assoc]
  exact List.perm_append_comm.append_right _
end
end M
namespace M
open PySem PySem.Spec PyProof.Rows L2

/-! ### wishes kept together, for unification -/
def OpG (r : R2) (x y : V) (H : Hp) (Q : VK) : Prop := r x y H Q
def UnG (r : V → Hp → VK → Prop) (x : V) (H : Hp) (Q : VK) : Prop := r x H Q
def CbG (r : List V → Hp → VK → Prop) (xs : List V) (H : Hp) (Q : VK) : Prop := r xs H Q
def LsG (vs : List V) (H : Hp) (Q : VK) : Prop := vs.length ≤ sizeLine ∧ ∀ p, H p = none → Q (.ref p) (upd H p (.lst vs))
def NotG (v : V) (H : Hp) (Q : VK) : Prop := ∃ c, v = .bl c ∧ Q (.bl (!c)) H
def LcG (J : It) (g : TG) (tt : TT) (te : TE) (is : List Nat) (σ : L2.St) (H : Hp) (Q : VK) : Prop := ∀ D, H D = none → ∃ W : Nat → Nat → Hp → Prop, (∃ m, W 0 m (upd H D (.lst []))) ∧ ∀ i' m H, W i' m H →
      (J.stop i' H ∧ Q (.ref D) H) ∨ (J.go i' H ∧ ∃ Nx : Hp → Prop, (∀ H', Nx H' → ∃ m', m' < m ∧ W (i' + 1) m' H') ∧ ∀ x H', J.yld i' H x H' → g x (wipe σ is) H' fun σ2 H2 => wipe σ2 is = wipe σ is ∧ tt σ2 H2 fun b H3 =>
        if b = true then te σ2 H3 fun y H4 => ∃ acc, H4 D = some (.lst acc) ∧ acc.length < sizeLine ∧ Nx (upd H4 D (.lst (acc ++ [y]))) else Nx H3)
/-! ### heap-free expressions and tests -/
abbrev enc {α : Type} [Sca α] (a : α) : V := Sca.enc a
abbrev okv {α : Type} [Sca α] (a : α) : Prop := Sca.okv a
structure HF (K : PySem.W.Frag) (te : TE) (Γ : List Cell) {α : Type} [Sca α] (m : Res α) : Prop where
  run : ∀ {I H : Hp} {σ ρ : List (Option V)} {Θ : List Cell} (X : Exn → Prop) (Q : VK), Env K I H σ Γ ρ Θ → wp m (fun x => okv x → Q (enc x) H) X → te σ H Q
structure HT (K : PySem.W.Frag) (tt : TT) (Γ : List Cell) (m : Res Bool) : Prop where
  run : ∀ {I H : Hp} {σ ρ : List (Option V)} {Θ : List Cell} (X : Exn → Prop) (Q : Bool → Hp → Prop), Env K I H σ Γ ρ Θ → wp m (fun x => Q x H) X → tt σ H Q
structure HR (r : R2) {α β γ : Type} [Sca α] [Sca β] [Sca γ] (x : α) (y : β) (m : Res γ) : Prop where
  run : ∀ {H : Hp} (X : Exn → Prop) (Q : VK), okv x → okv y → wp m (fun z => okv z → Q (enc z) H) X → r (enc x) (enc y) H Q
structure HU (r : V → Hp → VK → Prop) {α γ : Type} [Sca α] [Sca γ] (x : α) (m : Res γ) : Prop where
  run : ∀ {H : Hp} (X : Exn → Prop) (Q : VK), okv x → wp m (fun z => okv z → Q (enc z) H) X → r (enc x) H Q
/-- a built-in of one, of two scalars -/
structure HC1 (r : List V → Hp → VK → Prop) {α γ : Type} [Sca α] [Sca γ] (x : α) (m : Res γ) : Prop where
  run : ∀ {H : Hp} (X : Exn → Prop) (Q : VK), okv x → wp m (fun z => okv z → Q (enc z) H) X → r [enc x] H Q
structure HC2 (r : List V → Hp → VK → Prop) {α β γ : Type} [Sca α] [Sca β] [Sca γ] (x : α) (y : β) (m : Res γ) : Prop where
  run : ∀ {H : Hp} (X : Exn → Prop) (Q : VK), okv x → okv y → wp m (fun z => okv z → Q (enc z) H) X → r [enc x, enc y] H Q
theorem wpb {α β : Type} {m : Res α} {f : α → Res β} {P : β → Prop} {X : Exn → Prop} {P' : α → Prop} (h : wp (m.bind f) P X) (k : ∀ a, wp (f a) P X → P' a) : wp m P' X := wp_mono (wp_bind.mp h) k fun _ z => z
section
variable {K : PySem.W.Frag} {Γ : List Cell} {ta tb te : TE} {tt tu : TT} {r : R2} {α β γ : Type} [Sca α] [Sca β] [Sca γ] {i : Nat}
theorem hf_var {a : α} (h : Γ[i]? = some (.im a)) : HF K (tVar i) Γ (.ok a) := .mk fun X Q E q => ⟨_, (E.sca h).1, q (E.sca h).2⟩
theorem hf_c {a : α} {v : V} (h : v = enc a) (ok : okv a) : HF K (tC v) Γ (.ok a) := .mk fun X Q E q => by
  subst h
  exact q ok
theorem hf_pp {x : α} {y : β} {m : Res γ} (hr : HR r x y m) (ha : HF K ta Γ (.ok x)) (hb : HF K tb Γ (.ok y)) : HF K (tOp r ta tb) Γ m := .mk fun X Q E q => ha.run X _ E fun ox => hb.run X _ E fun oy => hr.run X Q ox oy q
theorem hf_pm {x : α} {m2 : Res β} {m : β → Res γ} (hr : ∀ y, HR r x y (m y)) (ha : HF K ta Γ (.ok x)) (hb : HF K tb Γ m2) : HF K (tOp r ta tb) Γ (m2.bind m) := .mk fun X Q E q =>
  ha.run X _ E fun ox => hb.run X _ E (wpb q fun y q oy => (hr y).run X Q ox oy q)
theorem hf_mp {m1 : Res α} {y : β} {m : α → Res γ} (hr : ∀ x, HR r x y (m x)) (ha : HF K ta Γ m1) (hb : HF K tb Γ (.ok y)) : HF K (tOp r ta tb) Γ (m1.bind m) := .mk fun X Q E q =>
  ha.run X _ E (wpb q fun x q ox => hb.run X _ E fun oy => (hr x).run X Q ox oy q)
theorem hf_mm {m1 : Res α} {m2 : Res β} {m : α → β → Res γ} (hr : ∀ x y, HR r x y (m x y)) (ha : HF K ta Γ m1) (hb : HF K tb Γ m2) : HF K (tOp r ta tb) Γ (m1.bind fun x => m2.bind fun y => m x y) := .mk fun X Q E q =>
  ha.run X _ E (wpb q fun x q ox => hb.run X _ E (wpb q fun y q oy => (hr x y).run X Q ox oy q))
theorem hf_up {rU : V → Hp → VK → Prop} {x : α} {m : Res γ} (hr : HU rU x m) (ha : HF K ta Γ (.ok x)) : HF K (tUn rU ta) Γ m := .mk fun X Q E q => ha.run X _ E fun ox => hr.run X Q ox q
theorem hf_um {rU : V → Hp → VK → Prop} {m1 : Res α} {m : α → Res γ} (hr : ∀ x, HU rU x (m x)) (ha : HF K ta Γ m1) : HF K (tUn rU ta) Γ (m1.bind m) := .mk fun X Q E q =>
  ha.run X _ E (wpb q fun x q ox => (hr x).run X Q ox q)
theorem hf_c1p {rc : List V → Hp → VK → Prop} {x : α} {m : Res γ} (hr : HC1 rc x m) (ha : HF K ta Γ (.ok x)) : HF K (tCB rc (tCons ta tNil)) Γ m := .mk fun X Q E q => ha.run X _ E fun ox => hr.run X Q ox q
theorem hf_c1m {rc : List V → Hp → VK → Prop} {m1 : Res α} {m : α → Res γ} (hr : ∀ x, HC1 rc x (m x)) (ha : HF K ta Γ m1) : HF K (tCB rc (tCons ta tNil)) Γ (m1.bind m) := .mk fun X Q E q =>
  ha.run X _ E (wpb q fun x q ox => (hr x).run X Q ox q)
theorem hf_c2p {rc : List V → Hp → VK → Prop} {x : α} {y : β} {m : Res γ} (hr : HC2 rc x y m) (ha : HF K ta Γ (.ok x)) (hb : HF K tb Γ (.ok y)) : HF K (tCB rc (tCons ta (tCons tb tNil))) Γ m := .mk fun X Q E q =>
  ha.run X _ E fun ox => hb.run X _ E fun oy => hr.run X Q ox oy q
theorem hf_c2m {rc : List V → Hp → VK → Prop} {m1 : Res α} {m2 : Res β} {m : α → β → Res γ} (hr : ∀ x y, HC2 rc x y (m x y)) (ha : HF K ta Γ m1) (hb : HF K tb Γ m2) :
    HF K (tCB rc (tCons ta (tCons tb tNil))) Γ (m1.bind fun x => m2.bind fun y => m x y) := .mk fun X Q E q =>
  ha.run X _ E (wpb q fun x q ox => hb.run X _ E (wpb q fun y q oy => (hr x y).run X Q ox oy q))

/-! tests -/
theorem ht_tt {m : Res Bool} (h : HF K te Γ m) : HT K (tTest te) Γ m := .mk fun X Q E q => h.run X _ E (wp_mono q (fun b q _ => ⟨b, rfl, q⟩) fun _ z => z)
theorem ht_B {m : Res Bool} (h : HF K te Γ m) : HT K (tB te) Γ m := .mk fun X Q E q => h.run X _ E (wp_mono q (fun b q _ => ⟨b, rfl, q⟩) fun _ z => z)
theorem ht_not_p {b : Bool} (h : HT K tt Γ (.ok b)) : HT K (tNot tt) Γ (.ok (!b)) := .mk fun X Q E q => h.run X _ E q
theorem ht_not_m {m : Res Bool} (h : HT K tt Γ m) : HT K (tNot tt) Γ (m.bind fun b => .ok (!b)) := .mk fun X Q E q => h.run X _ E (wp_bind.mp q)
theorem ht_and_pp {a b : Bool} (h : HT K tt Γ (.ok a)) (h2 : HT K tu Γ (.ok b)) : HT K (tAnd tt tu) Γ (.ok (a && b)) := .mk fun X Q E q => h.run X _ E (by
  cases a with
  | true => exact h2.run X Q E q
  | false => exact q)
theorem ht_or_pp {a b : Bool} (h : HT K tt Γ (.ok a)) (h2 : HT K tu Γ (.ok b)) : HT K (tOr tt tu) Γ (.ok (a || b)) := .mk fun X Q E q => h.run X _ E (by
  cases a with
  | true => exact q
  | false => exact h2.run X Q E q)
theorem ht_and_m {m1 m2 : Res Bool} (h : HT K tt Γ m1) (h2 : HT K tu Γ m2) : HT K (tAnd tt tu) Γ (m1.bind fun a => if a = true then m2 else .ok false) := .mk fun X Q E q => h.run X _ E (wpb q fun a q => by
  cases a with
  | true => exact h2.run X Q E q
  | false => exact q)
theorem ht_or_m {m1 m2 : Res Bool} (h : HT K tt Γ m1) (h2 : HT K tu Γ m2) : HT K (tOr tt tu) Γ (m1.bind fun a => if a = true then .ok true else m2) := .mk fun X Q E q => h.run X _ E (wpb q fun a q => by
  cases a with
  | true => exact q
  | false => exact h2.run X Q E q)
theorem ht_and_pm {a : Bool} {m2 : Res Bool} (h : HT K tt Γ (.ok a)) (h2 : HT K tu Γ m2) : HT K (tAnd tt tu) Γ (if a = true then m2 else .ok false) := .mk fun X Q E q => h.run X _ E (by
  cases a with
  | true => exact h2.run X Q E q
  | false => exact q)
theorem ht_or_pm {a : Bool} {m2 : Res Bool} (h : HT K tt Γ (.ok a)) (h2 : HT K tu Γ m2) : HT K (tOr tt tu) Γ (if a = true then .ok true else m2) := .mk fun X Q E q => h.run X _ E (by
  cases a with
  | true => exact q
  | false => exact h2.run X Q E q)
/-! and, or, not, if-else as values -/
theorem hf_and_pp {a b : Bool} (h : HF K ta Γ (.ok a)) (h2 : HF K tb Γ (.ok b)) : HF K (tAndV ta tb) Γ (.ok (a && b)) := .mk fun X Q E q => h.run X _ E fun _ => ⟨a, rfl, by
  cases a with
  | true => exact h2.run X Q E q
  | false => exact q trivial⟩
theorem hf_or_pp {a b : Bool} (h : HF K ta Γ (.ok a)) (h2 : HF K tb Γ (.ok b)) : HF K (tOrV ta tb) Γ (.ok (a || b)) := .mk fun X Q E q => h.run X _ E fun _ => ⟨a, rfl, by
  cases a with
  | true => exact q trivial
  | false => exact h2.run X Q E q⟩
theorem hf_and_pm {a : Bool} {m2 : Res Bool} (h : HF K ta Γ (.ok a)) (h2 : HF K tb Γ m2) : HF K (tAndV ta tb) Γ (if a = true then m2 else .ok false) := .mk fun X Q E q => h.run X _ E fun _ => ⟨a, rfl, by
  cases a with
  | true => exact h2.run X Q E q
  | false => exact q trivial⟩
theorem hf_or_pm {a : Bool} {m2 : Res Bool} (h : HF K ta Γ (.ok a)) (h2 : HF K tb Γ m2) : HF K (tOrV ta tb) Γ (if a = true then .ok true else m2) := .mk fun X Q E q => h.run X _ E fun _ => ⟨a, rfl, by
  cases a with
  | true => exact q trivial
  | false => exact h2.run X Q E q⟩
theorem hf_and_m {m1 m2 : Res Bool} (h : HF K ta Γ m1) (h2 : HF K tb Γ m2) : HF K (tAndV ta tb) Γ (m1.bind fun a => if a = true then m2 else .ok false) := .mk fun X Q E q => h.run X _ E (wpb q fun a q _ => ⟨a, rfl, by
  cases a with
  | true => exact h2.run X Q E q
  | false => exact q trivial⟩)
theorem hf_or_m {m1 m2 : Res Bool} (h : HF K ta Γ m1) (h2 : HF K tb Γ m2) : HF K (tOrV ta tb) Γ (m1.bind fun a => if a = true then .ok true else m2) := .mk fun X Q E q => h.run X _ E (wpb q fun a q _ => ⟨a, rfl, by
  cases a with
  | true => exact q trivial
  | false => exact h2.run X Q E q⟩)
theorem hf_not_p {b : Bool} (h : HF K ta Γ (.ok b)) : HF K (tNotV ta) Γ (.ok (!b)) := .mk fun X Q E q => h.run X _ E fun _ => ⟨b, rfl, q trivial⟩
theorem hf_not_m {m : Res Bool} (h : HF K ta Γ m) : HF K (tNotV ta) Γ (m.bind fun b => .ok (!b)) := .mk fun X Q E q => h.run X _ E (wpb q fun b q _ => ⟨b, rfl, q trivial⟩)
theorem hf_if_p {b : Bool} {x y : α} (h : HT K tt Γ (.ok b)) (h1 : HF K ta Γ (.ok x)) (h2 : HF K tb Γ (.ok y)) : HF K (tIf tt ta tb) Γ (.ok (if b = true then x else y)) := .mk fun X Q E q => h.run X _ E (by
  cases b with
  | true => exact h1.run X Q E q
  | false => exact h2.run X Q E q)
theorem hf_if_m {m : Res Bool} {m1 m2 : Res α} (h : HT K tt Γ m) (h1 : HF K ta Γ m1) (h2 : HF K tb Γ m2) : HF K (tIf tt ta tb) Γ (m.bind fun b => if b = true then m1 else m2) := .mk fun X Q E q => h.run X _ E (wpb q fun b q => by
  cases b with
  | true => exact h1.run X Q E q
  | false => exact h2.run X Q E q)
/-- chains a op b op c -/
theorem hf_chain {δ : Type} [Sca δ] {r' : R2} {tc : TE} {x : α} {y : β} {z : δ} {b c : Bool} (hr : HR r x y (.ok b)) (hr' : HR r' y z (.ok c)) (ha : HF K ta Γ (.ok x)) (hb : HF K tb Γ (.ok y)) (hc : HF K tc Γ (.ok z)) :
    HF K (tChain r r' ta tb tc) Γ (.ok (b && c)) := .mk fun X Q E q => ha.run X _ E fun ox => hb.run X _ E fun oy => hr.run X _ ox oy fun _ => ⟨b, rfl, by
  cases b with
  | true => exact hc.run X _ E fun oz => hr'.run X Q oy oz q
  | false => exact q trivial⟩
end

/-! ### ints -/
noncomputable def mulI (x y : Int) : Res Int := clo (if x.natAbs.log2 + y.natAbs.log2 < 1000000 then .ok (x * y) else .bad)
def modI (x y : Int) : Res Int := if 0 < y then .ok (x % y) else .bad
noncomputable def divI (x y : Int) : Res Int := clo (if 0 < y ∧ y.natAbs.log2 < 9000 then .ok (x / y) else .bad)
def powI (x y : Int) : Res Int := if 0 ≤ y ∧ ((x.natAbs.log2 + 1 : Nat) : Int) * y ≤ 2 ^ 27 then .ok (x ^ y.toNat) else .bad
def CPowW (i j : Int) : Prop := 0 ≤ j ∧ ((i.natAbs.log2 + 1 : Nat) : Int) * j ≤ 2 ^ 27
theorem op_powW {X : Cx} : OpR X (binaryOp .Pow) (rI CPowW fun i j => .int (i ^ j.toNat)) := opI fun i j _ _ _ _ _ hc q => PyProof.Rows.pow_int hc.1 (by
  have b : Builtin.Int.intBits i ≤ i.natAbs.log2 + 1 := by
    unfold Builtin.Int.intBits
    split <;> omega
  have h1 : ((Builtin.Int.intBits i : Nat) : Int) * j ≤ ((i.natAbs.log2 + 1 : Nat) : Int) * j := Int.mul_le_mul_of_nonneg_right (by omega) hc.1
  exact Int.le_trans h1 hc.2) q
theorem hr_add {x y : Int} : HR (rI0 fun i j => .int (i + j)) x y (.ok (x + y)) := .mk fun X Q _ _ q => ⟨x, y, rfl, rfl, q trivial⟩
theorem hr_sub {x y : Int} : HR (rI0 fun i j => .int (i - j)) x y (.ok (x - y)) := .mk fun X Q _ _ q => ⟨x, y, rfl, rfl, q trivial⟩
theorem hr_mul {x y : Int} : HR (rI CMulW fun i j => .int (i * j)) x y (mulI x y) := .mk fun X Q _ _ q => by
  unfold mulI at q
  rw [clo_eq] at q
  split at q
  · rename_i h
    exact ⟨x, y, rfl, rfl, h, q trivial⟩
  · exact q.elim
theorem hr_mod {x y : Int} : HR (rI (fun _ j => 0 < j) fun i j => .int (i % j)) x y (modI x y) := .mk fun X Q _ _ q => by
  unfold modI at q
  split at q
  · rename_i h
    exact ⟨x, y, rfl, rfl, h, q trivial⟩
  · exact q.elim
theorem hr_div {x y : Int} : HR (rI CDivW fun i j => .int (i / j)) x y (divI x y) := .mk fun X Q _ _ q => by
  unfold divI at q
  rw [clo_eq] at q
  split at q
  · rename_i h
    exact ⟨x, y, rfl, rfl, h, q trivial⟩
  · exact q.elim
theorem hr_pow {x y : Int} : HR (rI CPowW fun i j => .int (i ^ j.toNat)) x y (powI x y) := .mk fun X Q _ _ q => by
  unfold powI at q
  split at q
  · rename_i h
    exact ⟨x, y, rfl, rfl, h, q trivial⟩
  · exact q.elim
theorem hr_lt {x y : Int} : HR (rI0 fun i j => .bl (decide (i < j))) x y (.ok (decide (x < y))) := .mk fun X Q _ _ q => ⟨x, y, rfl, rfl, q trivial⟩
theorem hr_le {x y : Int} : HR (rI0 fun i j => .bl (decide (i ≤ j))) x y (.ok (decide (x ≤ y))) := .mk fun X Q _ _ q => ⟨x, y, rfl, rfl, q trivial⟩
theorem hr_gt {x y : Int} : HR (rI0 fun i j => .bl (decide (j < i))) x y (.ok (decide (y < x))) := .mk fun X Q _ _ q => ⟨x, y, rfl, rfl, q trivial⟩
theorem hr_ge {x y : Int} : HR (rI0 fun i j => .bl (decide (j ≤ i))) x y (.ok (decide (y ≤ x))) := .mk fun X Q _ _ q => ⟨x, y, rfl, rfl, q trivial⟩
theorem dec_congr {p q : Prop} [Decidable p] [Decidable q] (h : p ↔ q) : decide p = decide q := by
  by_cases hp : p
  · rw [decide_eq_true hp, decide_eq_true (h.mp hp)]
  · rw [decide_eq_false hp, decide_eq_false (fun z => hp (h.mpr z))]
theorem hr_eq_of {α : Type} [Sca α] [DecidableEq α] {x y : α} (hs : scal (enc x) (enc y) = true) (hi : (enc x : V) = enc y → x = y) : HR rEq x y (.ok (decide (x = y))) := .mk fun X Q _ _ q => ⟨hs, by
  have e : decide ((Sca.enc x : V) = Sca.enc y) = decide (x = y) := dec_congr ⟨hi, fun h => by rw [h]⟩
  rw [e]
  exact q trivial⟩
theorem hr_ne_of {α : Type} [Sca α] [DecidableEq α] {x y : α} (hs : scal (enc x) (enc y) = true) (hi : (enc x : V) = enc y → x = y) : HR rNe x y (.ok (!decide (x = y))) := .mk fun X Q _ _ q => ⟨hs, by
  have e : decide ((Sca.enc x : V) = Sca.enc y) = decide (x = y) := dec_congr ⟨hi, fun h => by rw [h]⟩
  rw [e]
  exact q trivial⟩
theorem hr_eqI {x y : Int} : HR rEq x y (.ok (decide (x = y))) := hr_eq_of rfl fun h => V.int.inj h
theorem hr_neI {x y : Int} : HR rNe x y (.ok (!decide (x = y))) := hr_ne_of rfl fun h => V.int.inj h
theorem hr_eqB {x y : Bool} : HR rEq x y (.ok (decide (x = y))) := hr_eq_of rfl fun h => V.bl.inj h
theorem hr_neB {x y : Bool} : HR rNe x y (.ok (!decide (x = y))) := hr_ne_of rfl fun h => V.bl.inj h
theorem hu_neg {x : Int} : HU (rU fun i => .int (-i)) x (.ok (-x)) := .mk fun X Q _ q => ⟨x, rfl, q trivial⟩
theorem hc_abs {x : Int} : HC1 (fun xs H Q => ∃ i, xs = [V.int i] ∧ Q (.int (if i < 0 then -i else i)) H) x (.ok (if x < 0 then -x else x)) := .mk fun X Q _ q => ⟨x, rfl, q trivial⟩
theorem hc_int {x : Int} : HC1 (fun xs H Q => (∃ i, xs = [V.int i] ∧ Q (.int i) H) ∨ ∃ k, xs = [.bl k] ∧ Q (.int (if k then 1 else 0)) H) x (.ok x) := .mk fun X Q _ q => .inl ⟨x, rfl, q trivial⟩
theorem hc_intB {x : Bool} : HC1 (fun xs H Q => (∃ i, xs = [V.int i] ∧ Q (.int i) H) ∨ ∃ k, xs = [.bl k] ∧ Q (.int (if k then 1 else 0)) H) x (.ok (if x = true then 1 else (0 : Int))) := .mk fun X Q _ q => .inr ⟨x, rfl, q trivial⟩
theorem hc_max {x y : Int} : HC2 (fun xs H Q => ∃ i j, xs = [V.int i, .int j] ∧ Q (.int (if j > i then j else i)) H) x y (.ok (max x y)) := .mk fun X Q _ _ q => ⟨x, y, rfl, by
  have e : (if y > x then y else x) = max x y := by
    rw [Int.max_def]
    split <;> split <;> omega
  rw [e]
  exact q trivial⟩
theorem hc_min {x y : Int} : HC2 (fun xs H Q => ∃ i j, xs = [V.int i, .int j] ∧ Q (.int (if j < i then j else i)) H) x y (.ok (min x y)) := .mk fun X Q _ _ q => ⟨x, y, rfl, by
  have e : (if y < x then y else x) = min x y := by
    rw [Int.min_def]
    split <;> split <;> omega
  rw [e]
  exact q trivial⟩

theorem hf_is {K : PySem.W.Frag} {te : TE} {Γ : List Cell} {α : Type} [Sca α] {m m' : Res α} (h : HF K te Γ m) (e : m = m') : HF K te Γ m' := by rw [← e]; exact h
/-! ### texts -/
theorem mkS_len (w : Tx) : (mkS w).length = List.length w := by simp [mkS, Str.length]
theorem mkS_list (w : Tx) : (mkS w).cps.toList = w := by simp [mkS]
theorem mkS_inj {a b : Tx} (h : mkS a = mkS b) : a = b := by
  have e := congrArg (fun s => s.cps.toList) h
  simp only [mkS_list] at e
  exact e
theorem mkS_app (a b : Tx) : mkS a ++ mkS b = mkS (a ++ b) := by
  apply ext_toList
  show (Array.append (mkS a).cps (mkS b).cps).toList = _
  simp [mkS]
theorem hr_eqT {x y : Tx} : HR rEq x y (.ok (decide (x = y))) := hr_eq_of rfl fun h => mkS_inj (V.str.inj h)
theorem hr_neT {x y : Tx} : HR rNe x y (.ok (!decide (x = y))) := hr_ne_of rfl fun h => mkS_inj (V.str.inj h)
noncomputable def xCat (a b : Tx) : Res Tx := clo (if a.length + b.length ≤ line then .ok (a ++ b) else .bad)
def xGet (w : Tx) (i : Int) : Res Tx := match atI w i with | some c => .ok [c] | none => .bad
def cutL {α : Type} (xs : List α) (lo hi : Option Int) : List α := (xs.drop (HT.sIx xs.length 0 lo)).take (HT.sIx xs.length xs.length hi - HT.sIx xs.length 0 lo)
theorem cutL_len {α : Type} (xs : List α) (lo hi : Option Int) : (cutL xs lo hi).length ≤ xs.length := by
  unfold cutL
  rw [List.length_take, List.length_drop]
  omega
theorem hr_catT {x y : Tx} : HR (fun x y H Q => ∃ i j, x = V.str i ∧ y = V.str j ∧ i.length + j.length ≤ sizeLine ∧ Q (.str (i ++ j)) H) x y (xCat x y) := .mk fun X Q _ _ q => by
  unfold xCat at q
  rw [clo_eq] at q
  split at q
  · rename_i h
    refine ⟨mkS x, mkS y, rfl, rfl, by rw [mkS_len, mkS_len, ← line_eq]; exact h, ?_⟩
    rw [mkS_app]
    exact q (by show (x ++ y).length ≤ line; rw [List.length_append]; exact h)
  · exact q.elim
def xLt (a b : Tx) : Bool := decide (a < b)
def xGt (a b : Tx) : Bool := decide (b < a)
def xLe (a b : Tx) : Bool := !decide (b < a)
def xGe (a b : Tx) : Bool := !decide (a < b)
theorem hr_ltT {x y : Tx} : HR (fun x y H Q => ∃ i j, x = V.str i ∧ y = V.str j ∧ Q (.bl (decide (i.cps.toList < j.cps.toList))) H) x y (.ok (xLt x y)) := .mk fun X Q _ _ q => ⟨mkS x, mkS y, rfl, rfl, by
  rw [mkS_list, mkS_list]
  exact q trivial⟩
theorem hr_gtT {x y : Tx} : HR (fun x y H Q => ∃ i j, x = V.str i ∧ y = V.str j ∧ Q (.bl (decide (j.cps.toList < i.cps.toList))) H) x y (.ok (xGt x y)) := .mk fun X Q _ _ q => ⟨mkS x, mkS y, rfl, rfl, by
  rw [mkS_list, mkS_list]
  exact q trivial⟩
theorem hr_leT {x y : Tx} : HR (fun x y H Q => ∃ i j, x = V.str i ∧ y = V.str j ∧ Q (.bl (!decide (j.cps.toList < i.cps.toList))) H) x y (.ok (xLe x y)) := .mk fun X Q _ _ q => ⟨mkS x, mkS y, rfl, rfl, by
  rw [mkS_list, mkS_list]
  exact q trivial⟩
theorem hr_geT {x y : Tx} : HR (fun x y H Q => ∃ i j, x = V.str i ∧ y = V.str j ∧ Q (.bl (!decide (i.cps.toList < j.cps.toList))) H) x y (.ok (xGe x y)) := .mk fun X Q _ _ q => ⟨mkS x, mkS y, rfl, rfl, by
  rw [mkS_list, mkS_list]
  exact q trivial⟩
theorem one_ok (c : Nat) : okv ([c] : Tx) := by show 1 ≤ line; decide
theorem hr_getT {x : Tx} {i : Int} : HR rIxS x i (xGet x i) := .mk fun X Q ox _ q => by
  unfold xGet at q
  cases e : atI x i with
  | none => rw [e] at q; exact q.elim
  | some c =>
    rw [e] at q
    exact ⟨mkS x, i, c, rfl, rfl, by rw [mkS_len, ← line_eq]; exact ox, by rw [mkS_list]; exact e, q (one_ok c)⟩
theorem hc_lenT {x : Tx} : HC1 (fun xs H Q => ∃ z : Str, xs = [V.str z] ∧ z.length ≤ sizeLine ∧ Q (.int z.length) H) x (.ok ((x.length : Nat) : Int)) := .mk fun X Q ox q =>
  ⟨mkS x, rfl, by rw [mkS_len, ← line_eq]; exact ox, by rw [mkS_len]; exact q trivial⟩
/-- slices of texts -/
structure HSl (K : PySem.W.Frag) (to : TO) (Γ : List Cell) (m : Res (Option Int)) : Prop where
  run : ∀ {I H : Hp} {σ ρ : List (Option V)} {Θ : List Cell} (X : Exn → Prop) (Q : Option Int → Hp → Prop), Env K I H σ Γ ρ Θ → wp m (fun x => Q x H) X → to σ H Q
section
variable {K : PySem.W.Frag} {Γ : List Cell} {te : TE} {tl th : TO}
theorem ho_none : HSl K tNoPart Γ (.ok none) := .mk fun X Q E q => q
theorem ho_p {i : Int} (h : HF K te Γ (.ok i)) : HSl K (tPart te) Γ (.ok (some i)) := .mk fun X Q E q => h.run X _ E fun _ => ⟨i, rfl, q⟩
theorem ho_m {m : Res Int} (h : HF K te Γ m) : HSl K (tPart te) Γ (m.bind fun i => .ok (some i)) := .mk fun X Q E q => h.run X _ E (wpb q fun i q _ => ⟨i, rfl, q⟩)
theorem cutS_mk (w : Tx) (lo hi : Option Int) : cutS (mkS w) lo hi = mkS (cutL w lo hi) := by
  unfold cutS cutL
  rw [mkS_list, mkS_len]
  rfl
theorem hf_cut_p {w : Tx} {lo hi : Option Int} (h : HF K te Γ (.ok w)) (hl : HSl K tl Γ (.ok lo)) (hh : HSl K th Γ (.ok hi)) : HF K (tSl rSlS te tl th) Γ (.ok (cutL w lo hi)) := .mk fun X Q E q =>
  h.run X _ E fun ow => hl.run X _ E (hh.run X _ E ⟨mkS w, rfl, by rw [mkS_len, ← line_eq]; exact ow, by rw [cutS_mk]; exact q (Nat.le_trans (cutL_len w lo hi) ow)⟩)
theorem hf_cut_m {m : Res Tx} {ml mh : Res (Option Int)} (h : HF K te Γ m) (hl : HSl K tl Γ ml) (hh : HSl K th Γ mh) : HF K (tSl rSlS te tl th) Γ (m.bind fun w => ml.bind fun lo => mh.bind fun hi => .ok (cutL w lo hi)) := .mk fun X Q E q =>
  h.run X _ E (wpb q fun w q ow => hl.run X _ E (wpb q fun lo q => hh.run X _ E (wpb q fun hi q => ⟨mkS w, rfl, by rw [mkS_len, ← line_eq]; exact ow, by rw [cutS_mk]; exact q (Nat.le_trans (cutL_len w lo hi) ow)⟩)))
end
end M
namespace M
open PySem PySem.Spec PyProof.Rows L2

/-! ### control of a mirror -/
inductive Fl (ρ σ : Type) : Type where
  | nx (s : σ) | bk (s : σ) | rt (r : ρ)
inductive Lp (ρ σ : Type) : Type where
  | fin (s : σ) | ret (r : ρ)
def forR {α ρ S : Type} (f : α → S → Res (Fl ρ S)) : List α → S → Res (Lp ρ S)
  | [], s => .ok (.fin s)
  | x :: xs, s => (f x s).bind fun y => match y with
    | .nx s' => forR f xs s'
    | .bk s' => .ok (.fin s')
    | .rt r => .ok (.ret r)
def forS {α S : Type} (f : α → S → Res S) : List α → S → Res S
  | [], s => .ok s
  | x :: xs, s => (f x s).bind fun s' => forS f xs s'
/-- lo, lo + 1, .. below hi -/
def rng (lo hi : Int) : List Int := (List.range (hi - lo).toNat).map fun (i : Nat) => lo + (i : Int)
def RgOk (lo hi : Int) : Prop := -(2 ^ 62) ≤ lo ∧ lo < 2 ^ 62 ∧ -(2 ^ 62) ≤ hi ∧ hi < 2 ^ 62
instance (lo hi : Int) : Decidable (RgOk lo hi) := by unfold RgOk; exact inferInstance
noncomputable def rngR (lo hi : Int) : Res (List Int) := clo (if RgOk lo hi then .ok (rng lo hi) else .bad)
theorem paired_at {α : Type} {f : V → α → Prop} : ∀ {vs : List V} {xs : List α} {i : Nat} {y : V} {x : α}, Paired f vs xs → vs[i]? = some y → xs[i]? = some x → f y x
  | _, _, _, _, _, .nil, h, _ => by simp at h
  | _, _, 0, _, _, .cons r _, h1, h2 => by
    simp at h1 h2
    subst h1 h2
    exact r
  | _, _, i + 1, _, _, .cons _ t, h1, h2 => paired_at (i := i) t (by simpa using h1) (by simpa using h2)
section
variable {K : PySem.W.Frag} {I H I' H' : Hp} {σ σ' ρ : List (Option V)} {Γ Γ' Θ : List Cell} {i j : Nat} {v : V} {c : Cell} {te tl : TE} {tt : TT} {t u : TS} {dn db dc : L2.St → Hp → Prop} {dr : VK} {Q : VK}
variable {ω : Type} {P : ω → Prop} {X : Exn → Prop}
theorem Env.clear (E : Env K I H σ Γ ρ Θ) : Env K I H [] [] ρ Θ := ⟨rfl, E.2.1, EnvL.drop E.2.2⟩

/-! ### expressions onto the stack -/
theorem st_push {α : Type} [Sca α] {x : α} (E : Env K I H σ Γ ρ Θ) (ht : HF K te Γ (.ok x)) (next : Env K I H σ Γ (some (enc x) :: ρ) (.im x :: Θ) → Q (enc x) H) : te σ H Q :=
  ht.run (fun _ => False) Q E fun ok => next (E.pushS ok)
theorem st_pushm {α : Type} [Sca α] {m : Res α} {k : α → Res ω} (E : Env K I H σ Γ ρ Θ) (ht : HF K te Γ m) (h : wp (m.bind k) P X) (next : ∀ x, Env K I H σ Γ (some (enc x) :: ρ) (.im x :: Θ) → wp (k x) P X → Q (enc x) H) : te σ H Q :=
  ht.run X Q E (wpb h fun x q ok => next x (E.pushS ok) q)
theorem st_var {α : Type} [Rep α] {a : α} (E : Env K I H σ Γ ρ Θ) (hΓ : Γ[i]? = some (.im a)) (next : ∀ v, Env K I H σ Γ (some v :: ρ) (.im a :: Θ) → Q v H) : tVar i σ H Q := by
  obtain ⟨v, ho, r⟩ := E.get hΓ
  exact ⟨v, ho, next v (E.push r)⟩
/-! ### statements -/
theorem st_store {Q : L2.St → Hp → Prop} (E : Env K I H σ Γ (some v :: ρ) (c :: Θ)) (hΓ : Γ.set i c = Γ') (hi : i < Γ.length) (next : ∀ σ', Env K I H σ' Γ' ρ Θ → Q σ' H) : gName i v σ H Q := next _ (E.store hi hΓ)
theorem st_set {α : Type} [Sca α] {x : α} (E : Env K I H σ Γ ρ Θ) (ht : HF K te Γ (.ok x)) (hΓ : Γ.set i (.im x) = Γ') (hi : i < Γ.length) (next : ∀ σ', Env K I H σ' Γ' ρ Θ → dn σ' H) : tAsg te (gName i) ⟨dn, dr, db, dc⟩ σ H :=
  st_push E ht fun E => st_store E hΓ hi next
theorem st_setm {α : Type} [Sca α] {m : Res α} {k : α → Res ω} {Γ' : α → List Cell} (E : Env K I H σ Γ ρ Θ) (ht : HF K te Γ m) (h : wp (m.bind k) P X) (hΓ : ∀ x, Γ.set i (.im x) = Γ' x) (hi : i < Γ.length) (next : ∀ x σ', Env K I H σ' (Γ' x) ρ Θ → wp (k x) P X → dn σ' H) : tAsg te (gName i) ⟨dn, dr, db, dc⟩ σ H :=
  st_pushm E ht h fun x E h => st_store E (hΓ x) hi fun σ' E => next x σ' E h
theorem st_ret {α : Type} [Sca α] {x : α} (E : Env K I H σ Γ ρ Θ) (ht : HF K te Γ (.ok x)) (h : ∀ I' H' v, Env K I' H' [] [] (some v :: ρ) (.im x :: Θ) → dr v H') : tRet te ⟨dn, dr, db, dc⟩ σ H :=
  st_push E ht fun E => h _ _ _ E.clear
theorem st_retm {α : Type} [Sca α] {m : Res α} {k : α → Res ω} (E : Env K I H σ Γ ρ Θ) (ht : HF K te Γ m) (h : wp (m.bind k) P X) (next : ∀ x, wp (k x) P X → ∀ I' H' v, Env K I' H' [] [] (some v :: ρ) (.im x :: Θ) → dr v H') : tRet te ⟨dn, dr, db, dc⟩ σ H :=
  st_pushm E ht h fun x E h => next x h _ _ _ E.clear
theorem st_retN (E : Env K I H σ Γ ρ Θ) (h : ∀ I' H' v, Env K I' H' [] [] (some v :: ρ) (.im () :: Θ) → dr v H') : dr .non H := h _ _ _ (E.clear.push ⟨rfl, trivial⟩)
theorem st_if {b : Bool} {m1 m2 : Res ω} (E : Env K I H σ Γ ρ Θ) (ht : HT K tt Γ (.ok b)) (h : wp (if b = true then m1 else m2) P X) (h1 : wp m1 P X → t ⟨dn, dr, db, dc⟩ σ H) (h2 : wp m2 P X → u ⟨dn, dr, db, dc⟩ σ H) : tIfS tt t u ⟨dn, dr, db, dc⟩ σ H :=
  ht.run X _ E (by
    show if b = true then _ else _
    cases b with
    | true => exact h1 h
    | false => exact h2 h)
theorem st_ifm {m : Res Bool} {m1 m2 : Res ω} (E : Env K I H σ Γ ρ Θ) (ht : HT K tt Γ m) (h : wp (m.bind fun b => if b = true then m1 else m2) P X) (h1 : wp m1 P X → t ⟨dn, dr, db, dc⟩ σ H) (h2 : wp m2 P X → u ⟨dn, dr, db, dc⟩ σ H) : tIfS tt t u ⟨dn, dr, db, dc⟩ σ H :=
  ht.run X _ E (wpb h fun b h => by
    show if b = true then _ else _
    cases b with
    | true => exact h1 h
    | false => exact h2 h)
/-- behind an if both ways go on together: s tells the data -/
theorem st_ifj {S : Type} {b : Bool} {m1 m2 : Res S} {k : S → Res ω} (G : S → List Cell) (E : Env K I H σ Γ ρ Θ) (ht : HT K tt Γ (.ok b)) (h : wp ((if b = true then m1 else m2).bind k) P X)
    (h1 : wp m1 (fun s => ∀ I' H' σ', Env K I' H' σ' (G s) ρ Θ → dn σ' H') X → t ⟨dn, dr, db, dc⟩ σ H) (h2 : wp m2 (fun s => ∀ I' H' σ', Env K I' H' σ' (G s) ρ Θ → dn σ' H') X → u ⟨dn, dr, db, dc⟩ σ H)
    (rest : ∀ s I' H' σ', Env K I' H' σ' (G s) ρ Θ → wp (k s) P X → dn σ' H') : tIfS tt t u ⟨dn, dr, db, dc⟩ σ H :=
  ht.run X _ E (by
    show if b = true then _ else _
    cases b with
    | true => exact h1 (wpb h fun s h I' H' σ' E => rest s I' H' σ' E h)
    | false => exact h2 (wpb h fun s h I' H' σ' E => rest s I' H' σ' E h))
theorem st_ifjm {S : Type} {m : Res Bool} {m1 m2 : Res S} {k : S → Res ω} (G : S → List Cell) (E : Env K I H σ Γ ρ Θ) (ht : HT K tt Γ m) (h : wp (m.bind fun b => (if b = true then m1 else m2).bind k) P X)
    (h1 : wp m1 (fun s => ∀ I' H' σ', Env K I' H' σ' (G s) ρ Θ → dn σ' H') X → t ⟨dn, dr, db, dc⟩ σ H) (h2 : wp m2 (fun s => ∀ I' H' σ', Env K I' H' σ' (G s) ρ Θ → dn σ' H') X → u ⟨dn, dr, db, dc⟩ σ H)
    (rest : ∀ s I' H' σ', Env K I' H' σ' (G s) ρ Θ → wp (k s) P X → dn σ' H') : tIfS tt t u ⟨dn, dr, db, dc⟩ σ H :=
  ht.run X _ E (wpb h fun b h => by
    show if b = true then _ else _
    cases b with
    | true => exact h1 (wpb h fun s h I' H' σ' E => rest s I' H' σ' E h)
    | false => exact h2 (wpb h fun s h I' H' σ' E => rest s I' H' σ' E h))
/-- the same where the test's value is at hand -/
theorem st_itej {S : Type} {b : Bool} {m1 m2 : Res S} {k : S → Res ω} (E : Env K I H σ Γ ρ Θ) (G : S → List Cell) (h : wp ((if b = true then m1 else m2).bind k) P X)
    (h1 : wp m1 (fun s => ∀ I' H' σ', Env K I' H' σ' (G s) ρ Θ → dn σ' H') X → t ⟨dn, dr, db, dc⟩ σ H) (h2 : wp m2 (fun s => ∀ I' H' σ', Env K I' H' σ' (G s) ρ Θ → dn σ' H') X → u ⟨dn, dr, db, dc⟩ σ H)
    (rest : ∀ s I' H' σ', Env K I' H' σ' (G s) ρ Θ → wp (k s) P X → dn σ' H') : if b = true then t ⟨dn, dr, db, dc⟩ σ H else u ⟨dn, dr, db, dc⟩ σ H := by
  cases b with
  | true => exact h1 (wpb h fun s h I' H' σ' E => rest s I' H' σ' E h)
  | false => exact h2 (wpb h fun s h I' H' σ' E => rest s I' H' σ' E h)
/-! ### loops -/
/-- what a turn's end means -/
def TurnP {ρτ S : Type} (K : PySem.W.Frag) (G : S → List Cell) (ρ : List (Option V)) (Θ : List Cell) (N B : L2.St → Hp → Prop) (R : ρτ → Prop) : Fl ρτ S → Prop
  | .nx s => ∀ I' H' σ', Env K I' H' σ' (G s) ρ Θ → N σ' H'
  | .bk s => ∀ I' H' σ', Env K I' H' σ' (G s) ρ Θ → B σ' H'
  | .rt r => R r
theorem forR_at {α ρτ S : Type} {f : α → S → Res (Fl ρτ S)} {xs : List α} {s : S} {i : Nat} {x : α} (hx : xs[i]? = some x) : forR f (xs.drop i) s = (f x s).bind fun y => match y with
    | .nx s' => forR f (xs.drop (i + 1)) s'
    | .bk s' => .ok (.fin s')
    | .rt r => .ok (.ret r) := by
  obtain ⟨hi, e⟩ := List.getElem?_eq_some_iff.mp hx
  rw [List.drop_eq_getElem_cons hi, e]
  rfl
/-- the walk J yields xs, as long as the entries ρe, Θe are on the stack -/
structure Feeds (K : PySem.W.Frag) (J : It) {α : Type} [Rep α] (xs : List α) (ρe : List (Option V)) (Θe : List Cell) : Prop where
  len : ρe.length = Θe.length
  go : ∀ {I H : Hp} {σ ρ : List (Option V)} {Γ Θ : List Cell} (i : Nat), Env K I H σ Γ (ρe ++ ρ) (Θe ++ Θ) → i < xs.length → J.go i H
  yld : ∀ {I H : Hp} {σ ρ : List (Option V)} {Γ Θ : List Cell} (i : Nat) (x : V) (H' : Hp) (a : α), Env K I H σ Γ (ρe ++ ρ) (Θe ++ Θ) → xs[i]? = some a → J.yld i H x H' → ∃ I', Grow I H I' H' ∧ Rep.rp K I' x a
  stop : ∀ {I H : Hp} {σ ρ : List (Option V)} {Γ Θ : List Cell} (i : Nat), Env K I H σ Γ (ρe ++ ρ) (Θe ++ Θ) → xs.length ≤ i → J.stop i H
theorem Env.drops : ∀ {ρe : List (Option V)} {Θe : List Cell}, ρe.length = Θe.length → Env K I H σ Γ (ρe ++ ρ) (Θe ++ Θ) → Env K I H σ Γ ρ Θ
  | [], [], _, E => E
  | _ :: _, [], h, _ => by simp at h
  | [], _ :: _, h, _ => by simp at h
  | o :: ρe, c :: Θe, h, E => Env.drops (ρe := ρe) (Θe := Θe) (by simpa using h) (Env.pop E)
/-- a for, its iterator at hand; s: the data that the turns change -/
theorem st_for {α ρτ S : Type} [Rep α] {xs : List α} {J : It} {ρe : List (Option V)} {Θe : List Cell} {g : TG} {tb : TS} {f : α → S → Res (Fl ρτ S)} {k : Lp ρτ S → Res ω} {s0 : S} (hJ : Feeds K J xs ρe Θe) (R : ρτ → Prop) (G : S → List Cell)
    (E : Env K I H σ Γ (ρe ++ ρ) (Θe ++ Θ)) (w : Wk Γ (G s0)) (h : wp ((forR f xs s0).bind k) P X) (ret : ∀ r, wp (k (.ret r)) P X → R r)
    (turn : ∀ x s I' H' σ' y (N B : L2.St → Hp → Prop), Env K I' H' σ' (G s) (some y :: (ρe ++ ρ)) (.im x :: (Θe ++ Θ)) → wp (f x s) (TurnP K G (ρe ++ ρ) (Θe ++ Θ) N B R) X → g y σ' H' fun σ2 H2 => tb ⟨N, dr, B, N⟩ σ2 H2) 
    (rest : ∀ s I' H' σ', Env K I' H' σ' (G s) ρ Θ → wp (k (.fin s)) P X → dn σ' H') :
    ∃ W : Nat → Nat → L2.St → Hp → Prop, (∃ m, W 0 m σ H) ∧ ∀ i m σ H, W i m σ H →
      (J.stop i H ∧ dn σ H) ∨ (J.go i H ∧ ∃ N : L2.St → Hp → Prop, (∀ σ' H', N σ' H' → ∃ m', m' < m ∧ W (i + 1) m' σ' H') ∧ ∀ x H', J.yld i H x H' → g x σ H' fun σ2 H2 => tb ⟨N, dr, dn, N⟩ σ2 H2) := by
  refine ⟨fun i m σ' H' => m = xs.length - i ∧ i ≤ xs.length ∧ ∃ s I', Env K I' H' σ' (G s) (ρe ++ ρ) (Θe ++ Θ) ∧ wp ((forR f (xs.drop i) s).bind k) P X, ⟨xs.length, by simp, Nat.zero_le _, s0, I, E.weak w, h⟩, ?_⟩
  rintro i m σ' H' ⟨rfl, hi, s, I', E', h'⟩
  by_cases hlt : i < xs.length
  · have hx : xs[i]? = some xs[i] := List.getElem?_eq_getElem hlt
    rw [forR_at hx, Res.bind_assoc] at h'
    refine .inr ⟨hJ.go i E' hlt, fun σ2 H2 => ∃ s I', Env K I' H2 σ2 (G s) (ρe ++ ρ) (Θe ++ Θ) ∧ wp ((forR f (xs.drop (i + 1)) s).bind k) P X, fun σ2 H2 z => ⟨xs.length - (i + 1), by omega, rfl, hlt, z⟩, fun y H2 hyl => ?_⟩
    obtain ⟨I2, g2, ry⟩ := hJ.yld i y H2 _ E' hx hyl
    refine turn _ s I2 H2 σ' y _ _ ((E'.grow g2).push ry) (wpb h' fun z q => ?_)
    cases z with
    | nx s' => exact fun I2 H2 σ2 E2 => ⟨s', I2, E2, q⟩
    | bk s' => exact fun I2 H2 σ2 E2 => rest s' I2 H2 σ2 (E2.drops hJ.len) q
    | rt r => exact ret r q
  · have e : i = xs.length := by omega
    subst e
    rw [List.drop_eq_nil_of_le (Nat.le_refl _)] at h'
    exact .inl ⟨hJ.stop _ E' (Nat.le_refl _), rest s I' H' σ' (E'.drops hJ.len) h'⟩
theorem forS_at {α S : Type} {f : α → S → Res S} {xs : List α} {s : S} {i : Nat} {x : α} (hx : xs[i]? = some x) : forS f (xs.drop i) s = (f x s).bind fun s' => forS f (xs.drop (i + 1)) s' := by
  obtain ⟨hi, e⟩ := List.getElem?_eq_some_iff.mp hx
  rw [List.drop_eq_getElem_cons hi, e]
  rfl
/-- a for that is never left early -/
theorem st_forS {α S : Type} [Rep α] {xs : List α} {J : It} {ρe : List (Option V)} {Θe : List Cell} {g : TG} {tb : TS} {f : α → S → Res S} {k : S → Res ω} {s0 : S} (hJ : Feeds K J xs ρe Θe) (G : S → List Cell)
    (E : Env K I H σ Γ (ρe ++ ρ) (Θe ++ Θ)) (w : Wk Γ (G s0)) (h : wp ((forS f xs s0).bind k) P X)
    (turn : ∀ x s I' H' σ' y (N B : L2.St → Hp → Prop), Env K I' H' σ' (G s) (some y :: (ρe ++ ρ)) (.im x :: (Θe ++ Θ)) → wp (f x s) (fun s => ∀ I' H' σ', Env K I' H' σ' (G s) (ρe ++ ρ) (Θe ++ Θ) → N σ' H') X → g y σ' H' fun σ2 H2 => tb ⟨N, dr, B, N⟩ σ2 H2) 
    (rest : ∀ s I' H' σ', Env K I' H' σ' (G s) ρ Θ → wp (k s) P X → dn σ' H') :
    ∃ W : Nat → Nat → L2.St → Hp → Prop, (∃ m, W 0 m σ H) ∧ ∀ i m σ H, W i m σ H →
      (J.stop i H ∧ dn σ H) ∨ (J.go i H ∧ ∃ N : L2.St → Hp → Prop, (∀ σ' H', N σ' H' → ∃ m', m' < m ∧ W (i + 1) m' σ' H') ∧ ∀ x H', J.yld i H x H' → g x σ H' fun σ2 H2 => tb ⟨N, dr, dn, N⟩ σ2 H2) := by
  refine ⟨fun i m σ' H' => m = xs.length - i ∧ i ≤ xs.length ∧ ∃ s I', Env K I' H' σ' (G s) (ρe ++ ρ) (Θe ++ Θ) ∧ wp ((forS f (xs.drop i) s).bind k) P X, ⟨xs.length, by simp, Nat.zero_le _, s0, I, E.weak w, h⟩, ?_⟩
  rintro i m σ' H' ⟨rfl, hi, s, I', E', h'⟩
  by_cases hlt : i < xs.length
  · have hx : xs[i]? = some xs[i] := List.getElem?_eq_getElem hlt
    rw [forS_at hx, Res.bind_assoc] at h'
    refine .inr ⟨hJ.go i E' hlt, fun σ2 H2 => ∃ s I', Env K I' H2 σ2 (G s) (ρe ++ ρ) (Θe ++ Θ) ∧ wp ((forS f (xs.drop (i + 1)) s).bind k) P X, fun σ2 H2 z => ⟨xs.length - (i + 1), by omega, rfl, hlt, z⟩, fun y H2 hyl => ?_⟩
    obtain ⟨I2, g2, ry⟩ := hJ.yld i y H2 _ E' hx hyl
    exact turn _ s I2 H2 σ' y _ _ ((E'.grow g2).push ry) (wpb h' fun s' q I3 H3 σ3 E3 => ⟨s', I3, E3, q⟩)
  · have e : i = xs.length := by omega
    subst e
    rw [List.drop_eq_nil_of_le (Nat.le_refl _)] at h'
    exact .inl ⟨hJ.stop _ E' (Nat.le_refl _), rest s I' H' σ' (E'.drops hJ.len) h'⟩
/-! ### what is walked -/
theorem it_rng0 {R : It → Hp → Prop} {lo : Int} {n : Nat} (next : ∀ J, Feeds K J ((List.range n).map fun (i : Nat) => lo + (i : Int)) [] [] → R J H) : R (Itr lo n) H := by
  refine next _ ⟨rfl, fun i _ hi => (show i < n by simpa using hi), fun {I H} {_ _} {_ _} i x H' a E hx hy => ?_, fun i _ hi => (show n ≤ i by simpa using hi)⟩
  obtain ⟨rfl, rfl⟩ := hy
  refine ⟨I, Grow.refl E.same, ?_⟩
  have hi : i < n := by
    have := (List.getElem?_eq_some_iff.mp hx).1
    simpa using this
  have e : lo + (i : Int) = a := by
    rw [List.getElem?_map, List.getElem?_range hi] at hx
    exact Option.some.inj hx
  exact ⟨by rw [e]; rfl, trivial⟩
theorem it_rng2 {R : It → Hp → Prop} {t1 t2 : TE} {a b : Int} {k : List Int → Res ω} (E : Env K I H σ Γ ρ Θ) (h1 : HF K t1 Γ (.ok a)) (h2 : HF K t2 Γ (.ok b)) (h : wp ((rngR a b).bind k) P X)
    (next : ∀ xs, wp (k xs) P X → ∀ J, Feeds K J xs [] [] → R J H) : iRng2 (tCons t1 (tCons t2 tNil)) σ H R := h1.run X _ E fun _ => h2.run X _ E fun _ => by
  unfold rngR at h
  rw [clo_eq] at h
  by_cases hr : RgOk a b
  · rw [if_pos hr] at h
    exact ⟨a, b, rfl, hr, it_rng0 (next _ h)⟩
  · rw [if_neg hr] at h
    exact h.elim
theorem it_rng2m {R : It → Hp → Prop} {t1 t2 : TE} {m1 m2 : Res Int} {k : List Int → Res ω} (E : Env K I H σ Γ ρ Θ) (h1 : HF K t1 Γ m1) (h2 : HF K t2 Γ m2) (h : wp (m1.bind fun a => m2.bind fun b => (rngR a b).bind k) P X)
    (next : ∀ xs, wp (k xs) P X → ∀ J, Feeds K J xs [] [] → R J H) : iRng2 (tCons t1 (tCons t2 tNil)) σ H R := h1.run X _ E (wpb h fun a h _ => h2.run X _ E (wpb h fun b h _ => by
  unfold rngR at h
  rw [clo_eq] at h
  by_cases hr : RgOk a b
  · rw [if_pos hr] at h
    exact ⟨a, b, rfl, hr, it_rng0 (next _ h)⟩
  · rw [if_neg hr] at h
    exact h.elim))
theorem it_rng1m {R : It → Hp → Prop} {t1 : TE} {m1 : Res Int} {k : List Int → Res ω} (E : Env K I H σ Γ ρ Θ) (h1 : HF K t1 Γ m1) (h : wp (m1.bind fun b => (rngR 0 b).bind k) P X)
    (next : ∀ xs, wp (k xs) P X → ∀ J, Feeds K J xs [] [] → R J H) : iRng1 (tCons t1 tNil) σ H R := h1.run X _ E (wpb h fun b h _ => by
  unfold rngR at h
  rw [clo_eq] at h
  by_cases hr : RgOk 0 b
  · rw [if_pos hr] at h
    have e : (b - 0).toNat = b.toNat := by omega
    unfold rng at h
    rw [e] at h
    exact ⟨b, rfl, hr.2.2.1, hr.2.2.2, it_rng0 (next _ h)⟩
  · rw [if_neg hr] at h
    exact h.elim)
theorem it_rng1 {R : It → Hp → Prop} {t1 : TE} {b : Int} {k : List Int → Res ω} (E : Env K I H σ Γ ρ Θ) (h1 : HF K t1 Γ (.ok b)) (h : wp ((rngR 0 b).bind k) P X)
    (next : ∀ xs, wp (k xs) P X → ∀ J, Feeds K J xs [] [] → R J H) : iRng1 (tCons t1 tNil) σ H R := it_rng1m (m1 := .ok b) E h1 h next
/-- on the stack: the two ends of a range (a call told them) -/
theorem it_list {α : Type} [Rep α] {R : Addr → Prop} {xs : List α} (E : Env K I H σ Γ (some v :: ρ) (.im xs :: Θ)) (next : ∀ a, Feeds K (Itl K a) xs [some v] [.im xs] → R a) :
    ∃ a, v = .ref a ∧ (∃ xs, SqL K H a xs) ∧ R a := by
  obtain ⟨a, vs, e, hq, pr⟩ := E.topR
  subst e
  refine ⟨a, rfl, ⟨vs, SqL.of (E.same _ _ hq)⟩, next _ ⟨rfl, fun {_ _} {_ _} {_ _} i E' hi => ?_, fun {I H} {_ _} {_ _} i x H' b E' hx hy => ?_, fun {_ _} {_ _} {_ _} i E' hi => ?_⟩⟩
  · obtain ⟨a', vs', e', hq', pr'⟩ := E'.topR
    cases e'
    have hl : vs'.length = xs.length := Paired.length pr'
    exact ⟨vs', vs'[i]'(by omega), SqL.of (E'.same _ _ hq'), List.getElem?_eq_getElem (by omega)⟩
  · obtain ⟨a', vs', e', hq', pr'⟩ := E'.topR
    cases e'
    obtain ⟨rfl, hy⟩ := hy
    have hl : vs'.length = xs.length := Paired.length pr'
    exact ⟨I, Grow.refl E'.same, paired_at pr' (hy _ (SqL.of (E'.same _ _ hq'))) hx⟩
  · obtain ⟨a', vs', e', hq', pr'⟩ := E'.topR
    cases e'
    have hl : vs'.length = xs.length := Paired.length pr'
    exact ⟨vs', SqL.of (E'.same _ _ hq'), by omega⟩
theorem it_tup {α : Type} [Rep α] {R : Addr → Prop} {xs : TupL α} (E : Env K I H σ Γ (some v :: ρ) (.im xs :: Θ)) (next : ∀ a, Feeds K (Itt K a) xs.l [some v] [.im xs] → R a) :
    ∃ a, v = .ref a ∧ (∃ xs, SqT K H a xs) ∧ R a := by
  obtain ⟨a, vs, e, hq, pr⟩ := E.topR
  subst e
  refine ⟨a, rfl, ⟨vs, same_seqT E.same hq⟩, next _ ⟨rfl, fun {_ _} {_ _} {_ _} i E' hi => ?_, fun {I H} {_ _} {_ _} i x H' b E' hx hy => ?_, fun {_ _} {_ _} {_ _} i E' hi => ?_⟩⟩
  · obtain ⟨a', vs', e', hq', pr'⟩ := E'.topR
    cases e'
    have hl : vs'.length = xs.l.length := Paired.length pr'
    exact ⟨vs', vs'[i]'(by omega), same_seqT E'.same hq', List.getElem?_eq_getElem (by omega)⟩
  · obtain ⟨a', vs', e', hq', pr'⟩ := E'.topR
    cases e'
    obtain ⟨rfl, hy⟩ := hy
    have hl : vs'.length = xs.l.length := Paired.length pr'
    exact ⟨I, Grow.refl E'.same, paired_at pr' (hy _ (same_seqT E'.same hq')) hx⟩
  · obtain ⟨a', vs', e', hq', pr'⟩ := E'.topR
    cases e'
    have hl : vs'.length = xs.l.length := Paired.length pr'
    exact ⟨vs', same_seqT E'.same hq', by omega⟩
end
/-- a text's signs -/
def chars (w : Tx) : List Tx := w.map fun c => [c]
section
variable {K : PySem.W.Frag} {I H : Hp} {σ ρ : List (Option V)} {Γ Θ : List Cell} {te : TE}
theorem it_str {R : It → Hp → Prop} {w : Tx} (E : Env K I H σ Γ ρ Θ) (ht : HF K te Γ (.ok w)) (next : ∀ J, Feeds K J (chars w) [] [] → R J H) : iStr te σ H R := ht.run (fun _ => False) _ E fun ok => by
  have sz : (mkS w).cps.size = w.length := mkS_len w
  have cl : (chars w).length = w.length := by unfold chars; simp
  refine ⟨mkS w, rfl, next _ ⟨rfl, fun i _ hi => ?_, fun {I H} {_ _} {_ _} i x H' a E' hx hy => ?_, fun i _ hi => ?_⟩⟩
  · show i < (mkS w).cps.size
    omega
  · obtain ⟨rfl, c, hc, rfl⟩ := hy
    refine ⟨I, Grow.refl E'.same, ?_⟩
    have e1 : (mkS w).cps.toList[i]? = some c := by rw [Array.getElem?_toList]; exact hc
    rw [mkS_list] at e1
    have e2 : a = [c] := by
      unfold chars at hx
      rw [List.getElem?_map, e1] at hx
      exact (Option.some.inj hx).symm
    subst e2
    exact ⟨rfl, one_ok c⟩
  · show (mkS w).cps.size ≤ i
    omega
end
theorem forR_nil {α ρ S : Type} {f : α → S → Res (Fl ρ S)} {s : S} : forR f [] s = .ok (.fin s) := rfl
theorem forR_cons {α ρ S : Type} {f : α → S → Res (Fl ρ S)} {s : S} {x : α} {xs : List α} : forR f (x :: xs) s = (f x s).bind fun y => match y with
    | .nx s' => forR f xs s'
    | .bk s' => .ok (.fin s')
    | .rt r => .ok (.ret r) := rfl
theorem forS_nil {α S : Type} {f : α → S → Res S} {s : S} : forS f [] s = .ok s := rfl
theorem forS_cons {α S : Type} {f : α → S → Res S} {s : S} {x : α} {xs : List α} : forS f (x :: xs) s = (f x s).bind fun s' => forS f xs s' := rfl
end M
namespace M
open PySem PySem.Spec PyProof.Rows L2

/-- what an exception bears -/
structure XD where
  fs : List (Str × V)
/-- its fields: none, or in a dict of its own -/
def XDr (I : Hp) (v : V) (fs : List (Str × V)) : Prop := (fs = [] ∧ v = .non) ∨ ∃ d, v = .ref d ∧ I d = some (.xd fs)
theorem XDr.mono {I J : Hp} {v : V} {fs : List (Str × V)} (e : Same I J) (h : XDr I v fs) : XDr J v fs := h.imp id fun ⟨d, e1, h⟩ => ⟨d, e1, e _ _ h⟩
instance repXD : Rep XD where
  rp K I v x := XDr I v x.fs
  mono := fun e h => h.mono e
/-- where the dict is -/
def dOf : V → Option Addr
  | .ref d => some d
  | _ => none
/-! ### promises by mirrors -/
def SpM (K : PySem.W.Frag) (mg : Str → Option Value) {A B : Type} (n : Nat) (cells : A → List Cell) (m : A → Res B) (oc : B → Cell) : Sp := fun vs H Q E =>
  vs.length = n ∧ ∃ (a : A) (I : Hp) (ρ : List (Option V)) (Θ : List Cell), Env K I H (vs.map some) (cells a) ρ Θ ∧
    wp (m a) (fun b => ∀ I' H' v, Env K I' H' [] [] (some v :: ρ) (oc b :: Θ) → Q v H')
      (fun e => ∀ I' H' cls d, mg e.cls = some cls → Env K I' H' [] [] (some d :: ρ) (.im (XD.mk e.fs) :: Θ) → E cls (dOf d) H')
/-- one owned parameter, the first; its data behind the call is told too -/
def SpO (K : PySem.W.Frag) (mg : Str → Option Value) {S A B : Type} [Own S] (n : Nat) (cells : A → List Cell) (m : S → A → Res (B × S)) (oc : B → Cell) : Sp := fun vs H Q E =>
  vs.length = n + 1 ∧ ∃ (s : S) (a : A) (I : Hp) (ρ : List (Option V)) (Θ : List Cell), Env K I H (vs.map some) (.own s vs.head? :: cells a) ρ Θ ∧
    wp (m s a) (fun b => ∀ I' H' v, Env K I' H' [vs.head?] [.own b.2 vs.head?] (some v :: ρ) (oc b.1 :: Θ) → Q v H')
      (fun e => ∀ I' H' cls d, mg e.cls = some cls → Env K I' H' [] [] (some d :: ρ) (.im (XD.mk e.fs) :: Θ) → E cls (dOf d) H')
section
variable {K : PySem.W.Frag} {mg : Str → Option Value} {I H I' H' : Hp} {σ σ' ρ : List (Option V)} {Γ Γ' Θ : List Cell} {i j n : Nat} {v : V} {c : Cell} {te tl : TE} {tt : TT} {t u : TS} {dn db dc : L2.St → Hp → Prop} {dr : VK} {Q : VK} {W : WX}
variable {ω : Type} {P : ω → Prop} {X : Exn → Prop}
/-- the wish about exceptions at slots σ over the frame ρ, Θ -/
def XWish (K : PySem.W.Frag) (mg : Str → Option Value) (W : WX) (σ : List (Option V)) (Γ : List Cell) (ρ : List (Option V)) (Θ : List Cell) (e : Exn) : Prop :=
  ∀ I' H' cls d, mg e.cls = some cls → Env K I' H' σ Γ (some d :: ρ) (.im (XD.mk e.fs) :: Θ) → W cls (dOf d) σ H'
theorem st_call {A B : Type} {cells : A → List Cell} {m : A → Res B} {oc : B → Cell} {vs : List V} (a : A) {k : B → Res ω} (E : Env K I H σ Γ ((vs.map some).reverse ++ ρ) ((cells a).reverse ++ Θ)) (hn : vs.length = n) (hc : (cells a).length = n)
    (h : wp ((m a).bind k) P X) (hX : ∀ e, X e → XWish K mg W σ Γ ρ Θ e)
    (next : ∀ b I' H' v, Env K I' H' σ Γ (some v :: ρ) (oc b :: Θ) → wp (k b) P X → Q v H') : SpM K mg n cells m oc vs H Q (WE W σ) := by
  refine ⟨hn, a, I, σ ++ ρ, Γ ++ Θ, E.enter (by rw [List.length_map, hn, hc]), ?_⟩
  refine wp_mono (wp_bind.mp h) (fun b q I' H' v E' => next b I' H' v (E'.leave E.1) q) fun e x I' H' cls d hm E' => hX e x I' H' cls d hm (E'.leave E.1)
theorem Env.swap {o1 o2 : Option V} {c1 c2 : Cell} (E : Env K I H σ Γ (o1 :: o2 :: ρ) (c1 :: c2 :: Θ)) : Env K I H σ Γ (o2 :: o1 :: ρ) (c2 :: c1 :: Θ) :=
  ⟨E.1, by have := E.2.1; simpa using this, E.2.2.perm ((List.Perm.swap _ _ _).append_left _)⟩
/-- the body's start -/
theorem st_start {N : List Str} {vs : List V} {k : Nat} (E : Env K I H (vs.map some) Γ ρ Θ) (hk : N.length - vs.length = k) : Env K I H (start N vs) (Γ ++ List.replicate k .any) ρ Θ := by
  subst hk
  exact E.locals
/-! ### own exceptions with one field -/
def spIni (C : Addr) (f : Str) : Sp := fun vs H Q _ => ∃ a y, vs = [.ref a, y] ∧ H a = some (exo a C none) ∧ ∀ dx, H dx = none → dx ≠ a → Q .non (upd (upd H dx (exd dx [(f, y)])) a (exo a C (some dx)))
theorem st_raise {α : Type} [Sca α] {C : Addr} {x : Str} {f : Str} {a : α} (E : Env K I H σ Γ ρ Θ) (ht : HF K te Γ (.ok a)) (hC : mg x = some (.ref C)) (h : XWish K mg W σ Γ ρ Θ ⟨x, [(f, enc a)]⟩) :
    tMkO C (spIni C f) [] (tCons te tNil) σ H fun cls d H' => W cls d σ H' :=
  ht.run (fun _ => False) _ E fun ok => by
    refine ⟨by simp, fun p hp => ⟨p, enc a, rfl, upd_same, fun dx hdx ne => ⟨rfl, dx, [(f, enc a)], upd_same, ?_, ?_, ?_⟩⟩⟩
    · rw [upd_ne ne, upd_same]
    · rw [upd_ne ne] at hdx
      exact hdx
    · rw [upd_ne ne] at hdx
      have e : upd (del (upd (upd (upd H p (exo p C none)) dx (exd dx [(f, enc a)])) p (exo p C (some dx))) p) dx (.xd [(f, enc a)]) = upd H dx (.xd [(f, enc a)]) := by
        funext b
        by_cases hb : b = dx
        · rw [hb, upd_same, upd_same]
        · rw [upd_ne hb, upd_ne hb]
          by_cases hp' : b = p
          · rw [hp', del_same, hp]
          · rw [del_ne hp', upd_ne hp', upd_ne hb, upd_ne hp']
      rw [e]
      exact h _ _ (.ref C) (.ref dx) hC ((E.grow (Grow.newI (u := .xd [(f, enc a)]) E.same hdx)).push (.inr ⟨dx, rfl, upd_same⟩))
/-- an own exception without fields -/
theorem st_raise0 {C : Addr} {x : Str} (E : Env K I H σ Γ ρ Θ) (hC : mg x = some (.ref C)) (h : XWish K mg W σ Γ ρ Θ ⟨x, []⟩) : W (.ref C) none σ H := h I H (.ref C) .non hC (E.push (a := XD.mk []) (.inl ⟨rfl, rfl⟩))
/-- what the top says of such a class -/
structure ExcTxt (P : Program) (w : World) (K : PySem.W.Frag) (mg : Str → Option Value) (base : Heap) (x f : Str) (C fI : Addr) (fd : FuncData) : Prop where
  gC : mg x = some (.ref C)
  T : OexC K C
  iC : PySem.W.findIn K (.ref C) "__init__" = some (some (.ref fI))
  tI : PySem.W.typeIn K (.ref fI) = some (.type "function")
  ini : FnOk P w K mg base (L2.CX P w) 1 fI fd ["self", f] (spIni C f)
  bI : Binds K fd ["self", f] []
end
end M
namespace M
open PySem PySem.Spec PyProof.Rows L2
section
variable {K : PySem.W.Frag} {mg : Str → Option Value} {I H I' H' : Hp} {σ σ' ρ : List (Option V)} {Γ Γ' Θ : List Cell} {i j n : Nat} {v v1 v2 : V} {c c1 c2 : Cell} {te tl : TE} {tt : TT} {t u : TS} {dn db dc : L2.St → Hp → Prop} {dr : VK} {Q : VK} {W : WX}
variable {ω : Type} {P : ω → Prop} {X : Exn → Prop} {α β γ : Type}
/-! ### operators on the stack -/
theorem Env.topS [Sca α] {a : α} (E : Env K I H σ Γ (some v :: ρ) (.im a :: Θ)) : v = enc a ∧ okv a := E.topR
theorem st_op2 [Sca α] [Sca β] [Sca γ] {r : R2} {x : α} {y : β} {m : Res γ} {k : γ → Res ω} (E : Env K I H σ Γ (some v2 :: some v1 :: ρ) (.im y :: .im x :: Θ)) (hr : HR r x y m) (h : wp (m.bind k) P X)
    (next : ∀ z v, Env K I H σ Γ (some v :: ρ) (.im z :: Θ) → wp (k z) P X → Q v H) : OpG r v1 v2 H Q := by
  obtain ⟨e2, o2⟩ := E.topS
  obtain ⟨e1, o1⟩ := E.pop.topS
  subst e1 e2
  exact hr.run X Q o1 o2 (wpb h fun z q ok => next z _ (E.pop.pop.pushS ok) q)
theorem st_op2p [Sca α] [Sca β] [Sca γ] {r : R2} {x : α} {y : β} {z : γ} (E : Env K I H σ Γ (some v2 :: some v1 :: ρ) (.im y :: .im x :: Θ)) (hr : HR r x y (.ok z))
    (next : ∀ v, Env K I H σ Γ (some v :: ρ) (.im z :: Θ) → Q v H) : OpG r v1 v2 H Q := by
  obtain ⟨e2, o2⟩ := E.topS
  obtain ⟨e1, o1⟩ := E.pop.topS
  subst e1 e2
  exact hr.run (fun _ => False) Q o1 o2 fun ok => next _ (E.pop.pop.pushS ok)
theorem st_un [Sca α] [Sca γ] {r : V → Hp → VK → Prop} {x : α} {m : Res γ} {k : γ → Res ω} (E : Env K I H σ Γ (some v1 :: ρ) (.im x :: Θ)) (hr : HU r x m) (h : wp (m.bind k) P X)
    (next : ∀ z v, Env K I H σ Γ (some v :: ρ) (.im z :: Θ) → wp (k z) P X → Q v H) : UnG r v1 H Q := by
  obtain ⟨e1, o1⟩ := E.topS
  subst e1
  exact hr.run X Q o1 (wpb h fun z q ok => next z _ (E.pop.pushS ok) q)
theorem st_c1 [Sca α] [Sca γ] {r : List V → Hp → VK → Prop} {x : α} {m : Res γ} {k : γ → Res ω} (E : Env K I H σ Γ (some v1 :: ρ) (.im x :: Θ)) (hr : HC1 r x m) (h : wp (m.bind k) P X)
    (next : ∀ z v, Env K I H σ Γ (some v :: ρ) (.im z :: Θ) → wp (k z) P X → Q v H) : CbG r [v1] H Q := by
  obtain ⟨e1, o1⟩ := E.topS
  subst e1
  exact hr.run X Q o1 (wpb h fun z q ok => next z _ (E.pop.pushS ok) q)
theorem st_c2 [Sca α] [Sca β] [Sca γ] {r : List V → Hp → VK → Prop} {x : α} {y : β} {m : Res γ} {k : γ → Res ω} (E : Env K I H σ Γ (some v2 :: some v1 :: ρ) (.im y :: .im x :: Θ)) (hr : HC2 r x y m) (h : wp (m.bind k) P X)
    (next : ∀ z v, Env K I H σ Γ (some v :: ρ) (.im z :: Θ) → wp (k z) P X → Q v H) : CbG r [v1, v2] H Q := by
  obtain ⟨e2, o2⟩ := E.topS
  obtain ⟨e1, o1⟩ := E.pop.topS
  subst e1 e2
  exact hr.run X Q o1 o2 (wpb h fun z q ok => next z _ (E.pop.pop.pushS ok) q)
/-- a truth value on the stack, tested -/
theorem st_tb {b : Bool} {Q : Bool → Hp → Prop} (E : Env K I H σ Γ (some v :: ρ) (.im b :: Θ)) (next : Env K I H σ Γ ρ Θ → Q b H) : ∃ k, v = .bl k ∧ Q k H := by
  obtain ⟨e, _⟩ := E.topS
  exact ⟨b, e, next E.pop⟩
theorem st_ite {b : Bool} {m1 m2 : Res ω} {A B : Prop} (h : wp (if b = true then m1 else m2) P X) (h1 : wp m1 P X → A) (h2 : wp m2 P X → B) : if b = true then A else B := by
  cases b with
  | true => exact h1 h
  | false => exact h2 h
/-- a test whose ways meet -/
theorem st_tj {S : Type} {m : Res (Bool × S)} {k : Bool × S → Res ω} {Q : Bool → Hp → Prop} (E : Env K I H σ Γ ρ Θ) (G : S → List Cell) (h : wp (m.bind k) P X)
    (first : wp m (fun b => ∀ I' H', Env K I' H' σ (G b.2) ρ Θ → Q b.1 H') X → tt σ H Q)
    (rest : ∀ b s I' H', Env K I' H' σ (G s) ρ Θ → wp (k (b, s)) P X → Q b H') : tt σ H Q :=
  first (wpb h fun b q I' H' E => rest b.1 b.2 I' H' E q)
theorem Env.nip {o1 o2 : Option V} (E : Env K I H σ Γ (o1 :: o2 :: ρ) (c1 :: c2 :: Θ)) : Env K I H σ Γ (o1 :: ρ) (c1 :: Θ) := E.swap.pop
/-- a call's value is returned -/
theorem st_retv (E : Env K I H σ Γ (some v :: ρ) (c :: Θ)) (h : ∀ I' H' v, Env K I' H' [] [] (some v :: ρ) (c :: Θ) → dr v H') : dr v H := h _ _ _ E.clear
/-- what a return is to bring -/
def RetP {B : Type} (K : PySem.W.Frag) (ρ : List (Option V)) (Θ : List Cell) (oc : B → Cell) (Q : VK) : B → Prop := fun r => ∀ I' H' v, Env K I' H' [] [] (some v :: ρ) (oc r :: Θ) → Q v H'
def RetO {B S : Type} [Own S] (K : PySem.W.Frag) (ρ : List (Option V)) (Θ : List Cell) (oc : B → Cell) (v0 : V) (Q : VK) : B × S → Prop := fun r => ∀ I' H' v, Env K I' H' [some v0] [.own r.2 (some v0)] (some v :: ρ) (oc r.1 :: Θ) → Q v H'
theorem Env.only {o0 : Option V} {c0 : Cell} : Env K I H σ (c0 :: Γ) ρ Θ → ∃ o0, σ.head? = some o0 ∧ Env K I H [o0] [c0] ρ Θ := fun E => by
  cases σ with
  | nil => have := E.1; simp at this
  | cons o σ =>
    refine ⟨o, rfl, rfl, E.2.1, ?_⟩
    have q : EnvL K I H ((o, c0) :: (σ.zip Γ ++ ρ.zip Θ)) := E.2.2
    have q2 : EnvL K I H (σ.zip Γ ++ ((o, c0) :: ρ.zip Θ)) := q.perm List.perm_middle.symm
    exact EnvL.drop q2
theorem Env.only0 {S : Type} [Own S] {s : S} {v0 : V} (E : Env K I H σ (.own s (some v0) :: Γ) ρ Θ) : Env K I H [some v0] [.own s (some v0)] ρ Θ := by
  obtain ⟨o, _, q⟩ := E.only (o0 := none)
  have z : EnvL K I H ((o, Cell.own s (some v0)) :: ρ.zip Θ) := q.2.2
  obtain ⟨_, fs, h1, _⟩ := id z
  cases fs with
  | nil => exact h1.elim
  | cons f fs =>
    obtain ⟨w, e1, e2, _⟩ := h1.1
    have e1 : o = some w := e1
    subst e1
    have e3 : w = v0 := e2 v0 rfl
    subst e3
    exact q
/-- an owned list is returned -/
theorem st_retO [Own α] {a : α} {pn : Option V} (E : Env K I H σ Γ ρ Θ) (hΓ : Γ[i]? = some (.own a pn)) (h : ∀ I' H' v, Env K I' H' [] [] (some v :: ρ) (.own a pn :: Θ) → dr v H') : tRet (tVar i) ⟨dn, dr, db, dc⟩ σ H := by
  obtain ⟨o, r, ho, e, _⟩ := E.pick hΓ
  obtain ⟨o2, ho2⟩ := E.slot hΓ
  obtain ⟨r2, p1, _⟩ := perm_at (zip_at ho hΓ)
  have z : EnvL K I H ((o, .own a pn) :: (r2 ++ ρ.zip Θ)) := E.2.2.perm (p1.append_right _)
  have z2 : EnvL K I H ((o, .own a pn) :: ρ.zip Θ) := by
    have z3 : EnvL K I H (r2 ++ ((o, .own a pn) :: ρ.zip Θ)) := z.perm List.perm_middle.symm
    exact EnvL.drop z3
  obtain ⟨_, fs, h1, _⟩ := id z
  cases fs with
  | nil => exact h1.elim
  | cons f fs =>
    obtain ⟨w, e1, _, _⟩ := h1.1
    have e1 : o = some w := e1
    subst e1
    exact ⟨w, ho, h I H w ⟨rfl, by simp [E.2.1], z2⟩⟩
/-- an expression's value dropped -/
theorem st_drop (E : Env K I H σ Γ (some v :: ρ) (c :: Θ)) (next : Env K I H σ Γ ρ Θ → dn σ H) : dn σ H := next E.pop
end
end M
namespace M
open PySem PySem.Spec PyProof.Rows L2
section
variable {K : PySem.W.Frag} {mg : Str → Option Value} {I H I' H' : Hp} {σ σ' ρ : List (Option V)} {Γ Γ' Θ : List Cell} {i j n : Nat} {v v1 v2 v3 : V} {c c1 c2 : Cell} {te tl ti : TE} {ta : TA} {tt : TT} {t u : TS} {dn db dc : L2.St → Hp → Prop} {dr : VK} {Q : VK} {W : WX}
variable {pn : Option V} {ω : Type} {P : ω → Prop} {X : Exn → Prop} {α β γ δ : Type}
/-! ### lists: new ones -/
theorem Env.collect [Rep α] : ∀ {xs : List α} {vs : List V}, vs.length = xs.length → Env K I H σ Γ ((vs.map some).reverse ++ ρ) ((xs.map Cell.im).reverse ++ Θ) → Paired (fun v x => Rep.rp K I v x) vs xs ∧ Env K I H σ Γ ρ Θ := by
  intro xs
  induction xs generalizing ρ Θ with
  | nil =>
    intro vs h E
    cases vs with
    | nil => exact ⟨.nil, E⟩
    | cons v vs => simp at h
  | cons x xs ih =>
    intro vs h E
    cases vs with
    | nil => simp at h
    | cons v vs =>
      have e1 : ((v :: vs).map some).reverse ++ ρ = (vs.map some).reverse ++ (some v :: ρ) := by simp
      have e2 : ((x :: xs).map Cell.im).reverse ++ Θ = (xs.map Cell.im).reverse ++ (Cell.im x :: Θ) := by simp
      rw [e1, e2] at E
      obtain ⟨p, E'⟩ := ih (by simpa using h) E
      exact ⟨.cons E'.topR p, E'.pop⟩
theorem Env.newI [Rep α] {p : Addr} {u : HO} {x : α} (E : Env K I H σ Γ ρ Θ) (hp : H p = none) (r : Rep.rp K (upd I p u) (.ref p) x) : Env K (upd I p u) (upd H p u) σ Γ (some (.ref p) :: ρ) (.im x :: Θ) :=
  (E.grow (Grow.newI E.same hp)).push r
theorem Env.same_newI {p : Addr} {u : HO} (E : Env K I H σ Γ ρ Θ) (hp : H p = none) : Same I (upd I p u) := (Grow.newI E.same hp).im
/-- a new list, owned | not to be changed -/
theorem st_newO [Rep α] {vs : List V} {xs : List α} (E : Env K I H σ Γ ρ Θ) (r : Paired (fun v x => Rep.rp K I v x) vs xs) (next : ∀ H' v, Env K I H' σ Γ (some v :: ρ) (.own xs :: Θ) → Q v H') : ∀ p, H p = none → Q (.ref p) (upd H p (.lst vs)) :=
  fun p hp => next _ _ (E.newL hp r)
theorem st_newI [Rep α] {vs : List V} {xs : List α} (E : Env K I H σ Γ ρ Θ) (r : Paired (fun v x => Rep.rp K I v x) vs xs) (next : ∀ I' H' v, Env K I' H' σ Γ (some v :: ρ) (.im xs :: Θ) → Q v H') : ∀ p, H p = none → Q (.ref p) (upd H p (.lst vs)) :=
  fun p hp => next _ _ _ (E.newI hp ⟨p, vs, rfl, upd_same, Paired.monoR (fun _ _ z => Rep.mono (E.same_newI hp) z) r⟩)
theorem line_of {n : Nat} (h : n ≤ line) : n ≤ sizeLine := by rw [← line_eq]; exact h
/-- [a, b, ..] -/
theorem st_lstO [Rep α] (vs : List V) (xs : List α) (hl : vs.length = xs.length) (hz : vs.length ≤ line) (E : Env K I H σ Γ ((vs.map some).reverse ++ ρ) ((xs.map Cell.im).reverse ++ Θ))
    (next : ∀ H' v, Env K I H' σ Γ (some v :: ρ) (.own xs :: Θ) → Q v H') : LsG vs H Q :=
  ⟨line_of hz, st_newO (E.collect hl).2 (E.collect hl).1 next⟩
theorem st_lstI [Rep α] (vs : List V) (xs : List α) (hl : vs.length = xs.length) (hz : vs.length ≤ line) (E : Env K I H σ Γ ((vs.map some).reverse ++ ρ) ((xs.map Cell.im).reverse ++ Θ))
    (next : ∀ I' H' v, Env K I' H' σ Γ (some v :: ρ) (.im xs :: Θ) → Q v H') : LsG vs H Q :=
  ⟨line_of hz, st_newI (E.collect hl).2 (E.collect hl).1 next⟩
/-- an owned list is let be -/
theorem st_freeze [Rep α] {xs : List α} {A : Prop} (E : Env K I H σ Γ ρ Θ) (hΓ : Γ[i]? = some (.own xs pn)) (hs : Γ.set i (.im xs) = Γ') (next : ∀ I', Env K I' H σ Γ' ρ Θ → A) : A := by
  subst hs
  obtain ⟨p, vs, _, _, _, _, _, fz⟩ := E.ownAt hΓ
  exact next _ fz
theorem st_freezeT [Rep α] {xs : List α} {A : Prop} (E : Env K I H σ Γ (some v :: ρ) (.own xs pn :: Θ)) (next : ∀ I', Env K I' H σ Γ (some v :: ρ) (.im xs :: Θ) → A) : A := by
  obtain ⟨p, vs, _, _, _, _, _, fz⟩ := E.unstack.ownL
  exact next _ ((Env.pop E).toStack fz)
/-! ### reading lists -/
def lGet (xs : List α) (i : Int) : Res α := match atI xs i with | some x => .ok x | none => .bad
theorem atI_paired {f : V → α → Prop} {vs : List V} {xs : List α} (p : Paired f vs xs) {i : Int} {x : α} (h : atI xs i = some x) : ∃ v, atI vs i = some v ∧ f v x := by
  have hl : vs.length = xs.length := Paired.length p
  unfold atI at h ⊢
  rw [hl]
  cases e : ixN xs.length i with
  | none => rw [e] at h; cases h
  | some k =>
    rw [e] at h
    have hx : xs[k]? = some x := h
    have hk := (List.getElem?_eq_some_iff.mp hx).1
    have hv : vs[k]? = some (vs[k]'(by omega)) := List.getElem?_eq_getElem (by omega)
    exact ⟨_, hv, paired_at p hv hx⟩
theorem rp_list {K : PySem.W.Frag} [Rep α] {xs : List α} {v : V} (r : Rep.rp K I v xs) : ∃ a vs, v = .ref a ∧ I a = some (.lst vs) ∧ Paired (fun v x => Rep.rp K I v x) vs xs := r
section
variable [Sca α] {xs : List α}
theorem hf_ix_of {m : Res Int} (hv : ∀ {I H : Hp} {σ ρ : List (Option V)} {Θ : List Cell}, Env K I H σ Γ ρ Θ → ∃ a vs, σ[j]? = some (some (.ref a)) ∧ H a = some (.lst vs) ∧ Paired (fun v x => Rep.rp K I v x) vs xs) (hi : HF K ti Γ m) :
    HF K (tOp (rIxL K) (tVar j) ti) Γ (m.bind fun i => lGet xs i) := .mk fun X Q E q => by
  obtain ⟨a, vs, hs, ha, p⟩ := hv E
  refine ⟨_, hs, hi.run X _ E (wpb q fun i q _ => ?_)⟩
  unfold lGet at q
  cases e : atI xs i with
  | none => rw [e] at q; exact q.elim
  | some x =>
    rw [e] at q
    obtain ⟨w, e2, r⟩ := atI_paired p e
    have r' : w = enc x ∧ okv x := r
    refine ⟨a, vs, i, w, rfl, rfl, SqL.of ha, e2, ?_⟩
    rw [r'.1]
    exact q r'.2
theorem Env.listAt [Rep β] {ys : List β} (E : Env K I H σ Γ ρ Θ) (hΓ : Γ[j]? = some (.im ys)) : ∃ a vs, σ[j]? = some (some (.ref a)) ∧ H a = some (.lst vs) ∧ Paired (fun v x => Rep.rp K I v x) vs ys := by
  obtain ⟨v, hs, a, vs, e, ha, p⟩ := E.get hΓ
  subst e
  exact ⟨a, vs, hs, E.same _ _ ha, p⟩
theorem Env.ownAt' [Rep β] {ys : List β} (E : Env K I H σ Γ ρ Θ) (hΓ : Γ[j]? = some (.own ys pn)) : ∃ a vs, σ[j]? = some (some (.ref a)) ∧ H a = some (.lst vs) ∧ Paired (fun v x => Rep.rp K I v x) vs ys := by
  obtain ⟨p, vs, hs, hp, _, r, _⟩ := E.ownAt hΓ
  exact ⟨p, vs, hs, hp, r⟩
theorem hf_ixL (hΓ : Γ[j]? = some (.im xs)) {m : Res Int} (hi : HF K ti Γ m) : HF K (tOp (rIxL K) (tVar j) ti) Γ (m.bind fun i => lGet xs i) := hf_ix_of (fun E => E.listAt hΓ) hi
theorem hf_ixLp (hΓ : Γ[j]? = some (.im xs)) {i : Int} (hi : HF K ti Γ (.ok i)) : HF K (tOp (rIxL K) (tVar j) ti) Γ (lGet xs i) := hf_ixL hΓ hi
theorem hf_ixO (hΓ : Γ[j]? = some (.own xs pn)) {m : Res Int} (hi : HF K ti Γ m) : HF K (tOp (rIxL K) (tVar j) ti) Γ (m.bind fun i => lGet xs i) := hf_ix_of (fun E => E.ownAt' hΓ) hi
theorem hf_ixOp (hΓ : Γ[j]? = some (.own xs pn)) {i : Int} (hi : HF K ti Γ (.ok i)) : HF K (tOp (rIxL K) (tVar j) ti) Γ (lGet xs i) := hf_ixO hΓ hi
end
abbrev rLen2 (K : PySem.W.Frag) : List V → Hp → VK → Prop := fun xs H Q => ∃ p ys, xs = [.ref p] ∧ (SqL K H p ys ∨ SqT K H p ys) ∧ Q (.int ys.length) H
theorem hf_lenL [Rep α] {xs : List α} (hΓ : Γ[j]? = some (.im xs)) : HF K (tCB (rLen2 K) (tCons (tVar j) tNil)) Γ (.ok ((xs.length : Nat) : Int)) := .mk fun X Q E q => by
  obtain ⟨a, vs, hs, ha, p⟩ := E.listAt hΓ
  refine ⟨_, hs, a, vs, rfl, .inl (SqL.of ha), ?_⟩
  have hl : vs.length = xs.length := Paired.length p
  rw [hl]
  exact q trivial
theorem hf_lenO [Rep α] {xs : List α} (hΓ : Γ[j]? = some (.own xs pn)) : HF K (tCB (rLen2 K) (tCons (tVar j) tNil)) Γ (.ok ((xs.length : Nat) : Int)) := .mk fun X Q E q => by
  obtain ⟨a, vs, hs, ha, p⟩ := E.ownAt' hΓ
  refine ⟨_, hs, a, vs, rfl, .inl (SqL.of ha), ?_⟩
  have hl : vs.length = xs.length := Paired.length p
  rw [hl]
  exact q trivial
theorem hf_lenT [Rep α] {xs : TupL α} (hΓ : Γ[j]? = some (.im xs)) : HF K (tCB (rLen2 K) (tCons (tVar j) tNil)) Γ (.ok ((xs.l.length : Nat) : Int)) := .mk fun X Q E q => by
  obtain ⟨v, hs, a, vs, e, ha, p⟩ := E.get hΓ
  subst e
  refine ⟨_, hs, a, vs, rfl, .inr (same_seqT E.same ha), ?_⟩
  have hl : vs.length = xs.l.length := Paired.length p
  rw [hl]
  exact q trivial
/-- len of what is on the stack -/
theorem st_lenL [Rep α] {xs : List α} (E : Env K I H σ Γ (some v :: ρ) (.im xs :: Θ)) (next : ∀ v, Env K I H σ Γ (some v :: ρ) (.im ((xs.length : Nat) : Int) :: Θ) → Q v H) : CbG (rLen2 K) [v] H Q := by
  obtain ⟨a, vs, e, ha, p⟩ := E.topR
  subst e
  have hl : vs.length = xs.length := Paired.length p
  exact ⟨a, vs, rfl, .inl (SqL.of (E.same _ _ ha)), next _ (E.pop.pushS (a := ((vs.length : Nat) : Int)) trivial |> fun z => by rw [← hl]; exact z)⟩
/-- xs[i], both on the stack -/
theorem st_ixL [Rep α] {xs : List α} {i : Int} {k : α → Res ω} (E : Env K I H σ Γ (some v2 :: some v1 :: ρ) (.im i :: .im xs :: Θ)) (h : wp ((lGet xs i).bind k) P X)
    (next : ∀ x v, Env K I H σ Γ (some v :: ρ) (.im x :: Θ) → wp (k x) P X → Q v H) : OpG (rIxL K) v1 v2 H Q := by
  obtain ⟨e2, _⟩ := E.topS
  subst e2
  obtain ⟨a, vs, e, ha, p⟩ := E.pop.topR
  subst e
  unfold lGet at h
  cases e : atI xs i with
  | none => rw [e] at h; exact h.elim
  | some x =>
    rw [e] at h
    obtain ⟨w, e2, r⟩ := atI_paired p e
    exact ⟨a, vs, i, w, rfl, rfl, SqL.of (E.same _ _ ha), e2, next x w (E.pop.pop.push r) h⟩
/-- xs[lo:hi] -/
theorem cutV_cutL (vs : List V) (lo hi : Option Int) : cutV vs lo hi = cutL vs lo hi := rfl
theorem cut_paired {f : V → α → Prop} {vs : List V} {xs : List α} (p : Paired f vs xs) (lo hi : Option Int) : Paired f (cutL vs lo hi) (cutL xs lo hi) := by
  have hl : vs.length = xs.length := Paired.length p
  unfold cutL
  rw [hl]
  have dr : ∀ {vs : List V} {xs : List α} (n : Nat), Paired f vs xs → Paired f (vs.drop n) (xs.drop n) := by
    intro vs xs n q
    induction q generalizing n with
    | nil => simp; exact .nil
    | cons r t ih =>
      cases n with
      | zero => exact .cons r t
      | succ n => exact ih n
  have tk : ∀ {vs : List V} {xs : List α} (n : Nat), Paired f vs xs → Paired f (vs.take n) (xs.take n) := by
    intro vs xs n q
    induction q generalizing n with
    | nil => simp; exact .nil
    | cons r t ih =>
      cases n with
      | zero => exact .nil
      | succ n => exact .cons r (ih n)
  exact tk _ (dr _ p)
theorem st_cutI [Rep α] {xs : List α} {tl th : TO} {ml mh : Res (Option Int)} {k : List α → Res ω} (E : Env K I H σ Γ (some v :: ρ) (.im xs :: Θ)) (hl : HSl K tl Γ ml) (hh : HSl K th Γ mh) (h : wp (ml.bind fun lo => mh.bind fun hi => k (cutL xs lo hi)) P X)
    (next : ∀ ys I' H' v, Env K I' H' σ Γ (some v :: ρ) (.im ys :: Θ) → wp (k ys) P X → Q v H') : tl σ H fun l H2 => th σ H2 fun u H3 => rSlL K v l u H3 Q :=
  hl.run X _ E (wpb h fun lo h => hh.run X _ E (wpb h fun hi h => by
    obtain ⟨a, vs, e, ha, p⟩ := E.topR
    subst e
    exact ⟨a, vs, rfl, SqL.of (E.same _ _ ha), st_newI (Env.pop E) (cut_paired p lo hi) fun I' H' v E' => next _ I' H' v E' h⟩))
theorem st_cutO [Rep α] {xs : List α} {tl th : TO} {ml mh : Res (Option Int)} {k : List α → Res ω} (E : Env K I H σ Γ (some v :: ρ) (.im xs :: Θ)) (hl : HSl K tl Γ ml) (hh : HSl K th Γ mh) (h : wp (ml.bind fun lo => mh.bind fun hi => k (cutL xs lo hi)) P X)
    (next : ∀ ys I' H' v, Env K I' H' σ Γ (some v :: ρ) (.own ys :: Θ) → wp (k ys) P X → Q v H') : tl σ H fun l H2 => th σ H2 fun u H3 => rSlL K v l u H3 Q :=
  hl.run X _ E (wpb h fun lo h => hh.run X _ E (wpb h fun hi h => by
    obtain ⟨a, vs, e, ha, p⟩ := E.topR
    subst e
    exact ⟨a, vs, rfl, SqL.of (E.same _ _ ha), st_newO (Env.pop E) (cut_paired p lo hi) fun H' v E' => next _ _ H' v E' h⟩))
/-! ### changing lists -/
noncomputable def lApp (xs : List α) (x : α) : Res (List α) := clo (if xs.length < line then .ok (xs ++ [x]) else .bad)
theorem paired_app {f : V → α → Prop} {vs ws : List V} {xs ys : List α} (p : Paired f vs xs) (q : Paired f ws ys) : Paired f (vs ++ ws) (xs ++ ys) := by
  induction p with
  | nil => exact q
  | cons r t ih => exact .cons r ih
theorem st_bmO [Rep α] {xs : List α} {r : V → List V → Hp → VK → Prop} (E : Env K I H σ Γ ρ Θ) (hΓ : Γ[i]? = some (.own xs pn)) (next : ∀ l, σ[i]? = some (some (.ref l)) → ta σ H fun vs H2 => r (.ref l) vs H2 Q) : tBM K "list" r (tVar i) ta σ H Q := by
  obtain ⟨p, vs, hs, hp, _⟩ := E.ownAt' hΓ
  exact ⟨_, hs, .inl ⟨rfl, vs, SqL.of hp⟩, next p hs⟩
theorem st_bm0O [Rep α] {xs : List α} {r : V → List V → Hp → VK → Prop} (E : Env K I H σ Γ ρ Θ) (hΓ : Γ[i]? = some (.own xs pn)) (next : ∀ l, σ[i]? = some (some (.ref l)) → r (.ref l) [] H Q) : tBM0 K "list" r (tVar i) σ H Q := by
  obtain ⟨p, vs, hs, hp, _⟩ := E.ownAt' hΓ
  exact ⟨_, hs, .inl ⟨rfl, vs, SqL.of hp⟩, next p hs⟩
theorem st_app [Rep α] {xs : List α} {x : α} {k : List α → Res ω} {l : Addr} (E : Env K I H σ Γ (some v :: ρ) (.im x :: Θ)) (hl : σ[i]? = some (some (.ref l))) (hΓ : Γ[i]? = some (.own xs pn)) (h : wp ((lApp xs x).bind k) P X)
    (next : ∀ ys H', Env K I H' σ (Γ.set i (.own ys pn)) ρ Θ → wp (k ys) P X → Q .non H') : rAppend (.ref l) [v] H Q := by
  obtain ⟨p, vs, hs, hp, _, q, ch, _⟩ := E.ownAt hΓ
  have e : l = p := by
    rw [hl] at hs
    exact V.ref.inj (Option.some.inj (Option.some.inj hs))
  subst e
  have rx := E.topR
  unfold lApp at h
  rw [clo_eq] at h
  by_cases hz : xs.length < line
  · rw [if_pos hz] at h
    have hlen : vs.length = xs.length := Paired.length q
    exact ⟨l, vs, v, rfl, rfl, hp, by rw [hlen, ← line_eq]; exact hz, next _ _ (ch (Grow.refl E.same) _ _ (paired_app q (.cons rx .nil))).pop h⟩
  · rw [if_neg hz] at h
    exact h.elim
end
end M
namespace M
open PySem PySem.Spec PyProof.Rows L2
/-! ### comprehensions with one plain name as target -/
def mapR {α β : Type} (f : α → Res β) : List α → Res (List β)
  | [] => .ok []
  | x :: xs => (f x).bind fun y => (mapR f xs).bind fun ys => .ok (y :: ys)
def filR {α β : Type} (t : α → Res Bool) (f : α → Res β) : List α → Res (List β)
  | [] => .ok []
  | x :: xs => (t x).bind fun b => if b = true then (f x).bind fun y => (filR t f xs).bind fun ys => .ok (y :: ys) else filR t f xs
/-- the length of what is walked is below the line: told once -/
noncomputable def lcR {α β : Type} (t : α → Res Bool) (f : α → Res β) (xs : List α) : Res (List β) := clo (if xs.length ≤ line then filR t f xs else .bad)
noncomputable def lcM {α β : Type} (f : α → Res β) (xs : List α) : Res (List β) := clo (if xs.length ≤ line then mapR f xs else .bad)
theorem mapR_fil {α β : Type} (f : α → Res β) (xs : List α) : mapR f xs = filR (fun _ => .ok true) f xs := by
  induction xs with
  | nil => rfl
  | cons x xs ih =>
    show (f x).bind _ = (f x).bind _
    rw [ih]
theorem lcM_lcR {α β : Type} (f : α → Res β) (xs : List α) : lcM f xs = lcR (fun _ => .ok true) f xs := by
  unfold lcM lcR
  rw [clo_eq, clo_eq, mapR_fil]
section
variable {K : PySem.W.Frag} {mg : Str → Option Value} {I H I' H' : Hp} {σ σ' ρ : List (Option V)} {Γ Γ' Θ : List Cell} {i j n : Nat} {v v1 v2 v3 : V} {c c1 c2 : Cell} {o : Option V} {te tl ti : TE} {ta : TA} {tt : TT} {t u : TS} {dn db dc : L2.St → Hp → Prop} {dr : VK} {Q : VK} {W : WX}
variable {ω : Type} {P : ω → Prop} {X : Exn → Prop} {α β γ δ : Type}
/-- a slot's entry is put aside -/
theorem Env.aside (E : Env K I H σ Γ ρ Θ) (h : Γ[i]? = some c) : ∃ o, σ[i]? = some o ∧ Env K I H (σ.set i none) (Γ.set i .any) (o :: ρ) (c :: Θ) := by
  obtain ⟨o, r, ho, e, back⟩ := E.pick h
  refine ⟨o, ho, ?_⟩
  obtain ⟨o2, ho2⟩ := E.slot h
  obtain ⟨r2, p1, p2⟩ := perm_at (zip_at ho h)
  refine ⟨by simp [E.1], by simp [E.2.1], ?_⟩
  rw [zip_set]
  have q : EnvL K I H ((o, c) :: (r2 ++ ρ.zip Θ)) := E.2.2.perm (p1.append_right _)
  have q2 : EnvL K I H ((none, Cell.any) :: (o, c) :: (r2 ++ ρ.zip Θ)) := q.any
  have pp : ((none, Cell.any) :: (o, c) :: (r2 ++ ρ.zip Θ)).Perm ((σ.zip Γ).set i (none, Cell.any) ++ (o :: ρ).zip (c :: Θ)) := by
    have a1 : ((σ.zip Γ).set i (none, Cell.any) ++ (o :: ρ).zip (c :: Θ)).Perm (((none, Cell.any) :: r2) ++ ((o, c) :: ρ.zip Θ)) := (p2 _).append_right _
    refine List.Perm.trans ?_ a1.symm
    refine List.Perm.cons _ ?_
    exact List.perm_middle.symm
  exact q2.perm pp
/-- .. and put back -/
theorem Env.again (E : Env K I H (σ.set i o) (Γ.set i .any) (o' :: ρ) (c :: Θ)) (ho : σ[i]? = some o') (h : Γ[i]? = some c) : Env K I H σ Γ ρ Θ := by
  have hi : i < Γ.length := (List.getElem?_eq_some_iff.mp h).1
  have q := Env.store (i := i) E (by simpa using hi) rfl
  rw [List.set_set, List.set_set, set_same ho, set_same h] at q
  exact q
theorem Env.anyOf (E : Env K I H σ (Γ.set i .any) ρ Θ) (hi : i < Γ.length) : Env K I H (σ.set i none) (Γ.set i .any) ρ Θ := by
  have h : (Γ.set i .any)[i]? = some .any := List.getElem?_set_self hi
  obtain ⟨o, ho, q⟩ := E.aside h
  have q2 := q.pop
  rw [List.set_set] at q2
  exact q2
theorem wkAny : ∀ {Γ : List Cell} {i : Nat}, Wk Γ (Γ.set i .any)
  | [], _ => trivial
  | c :: Γ, 0 => ⟨.inl rfl, by
    have all : ∀ Γ : List Cell, Wk Γ Γ := by
      intro Γ
      induction Γ with
      | nil => trivial
      | cons c Γ ih => exact ⟨.inr rfl, ih⟩
    exact all Γ⟩
  | c :: Γ, i + 1 => ⟨.inr rfl, wkAny (Γ := Γ) (i := i)⟩
theorem mapR_at {f : α → Res β} {xs : List α} {x : α} (hx : xs[i]? = some x) : mapR f (xs.drop i) = (f x).bind fun y => (mapR f (xs.drop (i + 1))).bind fun ys => .ok (y :: ys) := by
  obtain ⟨hi, e⟩ := List.getElem?_eq_some_iff.mp hx
  rw [List.drop_eq_getElem_cons hi, e]
  rfl
theorem filR_at {t : α → Res Bool} {f : α → Res β} {xs : List α} {x : α} (hx : xs[i]? = some x) : filR t f (xs.drop i) = (t x).bind fun b => if b = true then (f x).bind fun y => (filR t f (xs.drop (i + 1))).bind fun ys => .ok (y :: ys) else filR t f (xs.drop (i + 1)) := by
  obtain ⟨hi, e⟩ := List.getElem?_eq_some_iff.mp hx
  rw [List.drop_eq_getElem_cons hi, e]
  rfl
theorem wipe1 (σ : L2.St) (i : Nat) : wipe σ [i] = σ.set i none := rfl
/-- [e for x in xs if t], made to be owned -/
theorem st_lcf [Rep α] [Rep β] {xs : List α} {J : It} {ρe : List (Option V)} {Θe : List Cell} {t : α → Res Bool} {f : α → Res β} {k : List β → Res ω} (hJ : Feeds K J xs ρe Θe)
    (E : Env K I H σ Γ (ρe ++ ρ) (Θe ++ Θ)) (hΓ : Γ[i]? = some c) (h : wp ((lcR t f xs).bind k) P X)
    (next : ∀ ys I' H' v, Env K I' H' σ Γ (some v :: ρ) (.own ys :: Θ) → wp (k ys) P X → Q v H')
    (turn : ∀ x I' H' σ' ρ' Θ' (Qt : Bool → Hp → Prop), Env K I' H' σ' (Γ.set i (.im x)) ρ' Θ' → wp (t x) (fun b => ∀ I'' H'', Env K I'' H'' σ' (Γ.set i (.im x)) ρ' Θ' → Qt b H'') X → tt σ' H' Qt)
    (elt : ∀ x I' H' σ' ρ' Θ' (Qe : VK), Env K I' H' σ' (Γ.set i (.im x)) ρ' Θ' → wp (f x) (fun z => ∀ I'' H'' w, Env K I'' H'' σ' (Γ.set i (.im x)) (some w :: ρ') (.im z :: Θ') → Qe w H'') X → te σ' H' Qe) :
    LcG J (gName i) tt te [i] σ H Q := by
  intro D hD
  have hi : i < Γ.length := (List.getElem?_eq_some_iff.mp hΓ).1
  unfold lcR at h
  rw [clo_eq] at h
  by_cases hz : xs.length ≤ line
  case neg =>
    rw [if_neg hz] at h
    exact h.elim
  rw [if_pos hz] at h
  obtain ⟨o, ho, E1⟩ := E.aside hΓ
  have E2 := E1.newL (α := β) (vs := []) (xs := []) hD .nil
  -- the state: the list so far on top
  refine ⟨fun n m H' => m = xs.length - n ∧ n ≤ xs.length ∧ ∃ acc I', acc.length ≤ n ∧ Env K I' H' (σ.set i none) (Γ.set i .any) (some (.ref D) :: o :: (ρe ++ ρ)) (.own acc :: c :: (Θe ++ Θ)) ∧
    wp ((filR t f (xs.drop n)).bind fun ys => k (acc ++ ys)) P X, ⟨xs.length, by simp, Nat.zero_le _, [], I, Nat.le_refl _, E2, h⟩, ?_⟩
  rintro n m H' ⟨rfl, hn, acc, I', ha, E', h'⟩
  -- the walk's entries, seen
  have EJ : Env K I' H' (σ.set i none) (Γ.set i .any) (ρe ++ (some (.ref D) :: o :: ρ)) (Θe ++ (.own acc :: c :: Θ)) := by
    refine ⟨E'.1, ?_, E'.2.2.perm ((List.Perm.refl _).append ?_)⟩
    · have := E'.2.1
      have l := hJ.len
      simp only [List.length_append, List.length_cons] at this ⊢
      omega
    · have l := hJ.len
      show (((some (V.ref D), Cell.own acc) :: (o, c) :: ((ρe ++ ρ).zip (Θe ++ Θ)))).Perm _
      rw [List.zip_append l, List.zip_append l]
      show ((some (V.ref D), Cell.own acc) :: (o, c) :: (ρe.zip Θe ++ ρ.zip Θ)).Perm (ρe.zip Θe ++ ((some (V.ref D), Cell.own acc) :: (o, c) :: ρ.zip Θ))
      exact ((List.perm_middle.symm).cons _ |>.trans List.perm_middle.symm)
  by_cases hlt : n < xs.length
  · have hx : xs[n]? = some xs[n] := List.getElem?_eq_getElem hlt
    rw [filR_at hx, Res.bind_assoc] at h'
    refine .inr ⟨hJ.go n EJ hlt, fun H2 => ∃ acc I', acc.length ≤ n + 1 ∧ Env K I' H2 (σ.set i none) (Γ.set i .any) (some (.ref D) :: o :: (ρe ++ ρ)) (.own acc :: c :: (Θe ++ Θ)) ∧
      wp ((filR t f (xs.drop (n + 1))).bind fun ys => k (acc ++ ys)) P X, fun H2 z => ⟨xs.length - (n + 1), by omega, rfl, hlt, z⟩, fun y H2 hyl => ?_⟩
    obtain ⟨I2, g2, ry⟩ := hJ.yld n y H2 _ EJ hx hyl
    have E3 := ((E'.grow g2).push ry).store (i := i) (Γ' := Γ.set i (.im xs[n])) (by simpa using hi) (by rw [List.set_set])
    refine ⟨by show ((wipe σ [i]).set i (some y)).set i none = wipe σ [i]; rw [wipe1, List.set_set, List.set_set], ?_⟩
    have back : ∀ {I3 H3 : Hp} {ρ' : List (Option V)} {Θ' : List Cell}, Env K I3 H3 ((wipe σ [i]).set i (some y)) (Γ.set i (.im xs[n])) ρ' Θ' → Env K I3 H3 (σ.set i none) (Γ.set i .any) ρ' Θ' := by
      intro I3 H3 ρ' Θ' Z
      have z1 := Z.weak (wkAny (i := i))
      rw [List.set_set] at z1
      have z2 := Env.anyOf z1 hi
      rw [wipe1, List.set_set, List.set_set] at z2
      exact z2
    refine turn xs[n] I2 H2 _ _ _ _ E3 (wpb h' fun b h' I3 H3 E4 => ?_)
    cases b with
    | false => exact ⟨acc, I3, by omega, back E4, h'⟩
    | true =>
      have h2 : wp (((f xs[n]).bind fun y => (filR t f (xs.drop (n + 1))).bind fun ys => .ok (y :: ys)).bind fun ys => k (acc ++ ys)) P X := h'
      rw [Res.bind_assoc] at h2
      refine elt xs[n] I3 H3 _ _ _ _ E4 (wpb h2 fun z h2 I4 H4 w E5 => ?_)
      rw [Res.bind_assoc] at h2
      have E6 := back E5
      have rz := E6.topR
      obtain ⟨p, vs, e1, hp, _, q, ch, _⟩ := E6.pop.unstack.ownL
      cases e1
      have hlen : vs.length = acc.length := Paired.length q
      refine ⟨vs, hp, by rw [hlen, ← line_eq]; omega, acc ++ [z], I4, by rw [List.length_append]; simp; exact ha, ?_, ?_⟩
      · exact E6.pop.pop.toStack (ch (Grow.refl E6.same) _ _ (paired_app q (.cons rz .nil)))
      · have e : (fun ys => k (acc ++ z :: ys)) = fun ys => k ((acc ++ [z]) ++ ys) := by
          funext ys
          rw [List.append_assoc]
          rfl
        rw [← e]
        exact h2
  · have e : n = xs.length := by omega
    subst e
    rw [List.drop_eq_nil_of_le (Nat.le_refl _)] at h'
    have h' : wp (k (acc ++ [])) P X := h'
    rw [List.append_nil] at h'
    refine .inl ⟨hJ.stop _ EJ (Nat.le_refl _), next acc I' H' _ ?_ h'⟩
    -- the entry back, the walk's entries gone
    have E7 : Env K I' H' (σ.set i none) (Γ.set i .any) (ρe ++ (o :: some (.ref D) :: ρ)) (Θe ++ (c :: .own acc :: Θ)) := by
      refine ⟨EJ.1, by have := EJ.2.1; simp only [List.length_append, List.length_cons] at this ⊢; omega, EJ.2.2.perm ((List.Perm.refl _).append ?_)⟩
      rw [List.zip_append hJ.len, List.zip_append hJ.len]
      exact (List.Perm.refl _).append (.swap _ _ _)
    exact (E7.drops hJ.len).again ho hΓ
/-- [e for x in xs] -/
theorem st_lcm [Rep α] [Rep β] {xs : List α} {J : It} {ρe : List (Option V)} {Θe : List Cell} {f : α → Res β} {k : List β → Res ω} (hJ : Feeds K J xs ρe Θe)
    (E : Env K I H σ Γ (ρe ++ ρ) (Θe ++ Θ)) (hΓ : Γ[i]? = some c) (h : wp ((lcM f xs).bind k) P X)
    (next : ∀ ys I' H' v, Env K I' H' σ Γ (some v :: ρ) (.own ys :: Θ) → wp (k ys) P X → Q v H')
    (elt : ∀ x I' H' σ' ρ' Θ' (Qe : VK), Env K I' H' σ' (Γ.set i (.im x)) ρ' Θ' → wp (f x) (fun z => ∀ I'' H'' w, Env K I'' H'' σ' (Γ.set i (.im x)) (some w :: ρ') (.im z :: Θ') → Qe w H'') X → te σ' H' Qe) :
    LcG J (gName i) tYes te [i] σ H Q := by
  rw [lcM_lcR] at h
  exact st_lcf hJ E hΓ h next (fun x I' H' σ' ρ' Θ' Qt E' q => q I' H' E') elt
end
theorem mapR_nil {α β : Type} {f : α → Res β} : mapR f [] = .ok [] := rfl
theorem mapR_cons {α β : Type} {f : α → Res β} {x : α} {xs : List α} : mapR f (x :: xs) = (f x).bind fun y => (mapR f xs).bind fun ys => .ok (y :: ys) := rfl
theorem filR_nil {α β : Type} {t : α → Res Bool} {f : α → Res β} : filR t f [] = .ok [] := rfl
theorem filR_cons {α β : Type} {t : α → Res Bool} {f : α → Res β} {x : α} {xs : List α} : filR t f (x :: xs) = (t x).bind fun b => if b = true then (f x).bind fun y => (filR t f xs).bind fun ys => .ok (y :: ys) else filR t f xs := rfl
end M
namespace M
open PySem PySem.Spec PyProof.Rows L2
section
variable {K : PySem.W.Frag} {mg : Str → Option Value} {I H I' H' : Hp} {σ σ' ρ ρ' : List (Option V)} {Γ Γ' Θ Θ' : List Cell} {i j n : Nat} {v v0 v1 v2 v3 : V} {c c1 c2 : Cell} {o : Option V} {te tl ti : TE} {ta : TA} {tt : TT} {t u : TS} {dn db dc : L2.St → Hp → Prop} {dr : VK} {Q : VK} {W : WX}
variable {pn : Option V} {ω : Type} {P : ω → Prop} {X : Exn → Prop} {α β γ δ : Type}
theorem Env.sperm (E : Env K I H σ Γ ρ Θ) (l : ρ'.length = Θ'.length) (p : (ρ.zip Θ).Perm (ρ'.zip Θ')) : Env K I H σ Γ ρ' Θ' := ⟨E.1, l, E.2.2.perm (p.append_left _)⟩
theorem st_callO' {X1 : Exn → Prop} {S A B : Type} [Own S] {cells : A → List Cell} {m : S → A → Res (B × S)} {oc : B → Cell} {vs : List V} {s : S} (a : A) {k : B × S → Res ω} (hΓ : Γ[i]? = some (.own s pn)) (h0 : σ[i]? = some (some v0))
    (E : Env K I H σ Γ ((vs.map some).reverse ++ ρ) ((cells a).reverse ++ Θ)) (hn : vs.length = n) (hc : (cells a).length = n)
    (h : wp (m s a) (fun b => wp (k b) P X) X1) (hX : ∀ e, X1 e → XWish K mg W σ (Γ.set i .any) ρ Θ e)
    (next : ∀ b I' H' v, Env K I' H' σ (Γ.set i (.own b.2 pn)) (some v :: ρ) (oc b.1 :: Θ) → wp (k b) P X → Q v H') : SpO K mg n cells m oc (v0 :: vs) H Q (WE W σ) := by
  have hi : i < Γ.length := (List.getElem?_eq_some_iff.mp hΓ).1
  obtain ⟨o, ho, E1⟩ := E.aside hΓ
  have eo : o = some v0 := Option.some.inj (ho.symm.trans h0)
  subst eo
  have hpin := E1.unstack.pin
  have E1 := (Env.pop E1).toStack (E1.unstack.repin (pn' := some v0) fun w e => Option.some.inj e)
  have lr : (vs.map some).reverse.length = (cells a).reverse.length := by simp [hn, hc]
  have l2 := E.2.1
  have E2 : Env K I H (σ.set i none) (Γ.set i .any) (((v0 :: vs).map some).reverse ++ ρ) ((Cell.own s (some v0) :: cells a).reverse ++ Θ) := by
    refine E1.sperm (by simp only [List.length_append, List.length_reverse, List.length_map, List.length_cons] at l2 ⊢; omega) ?_
    have e1 : ((v0 :: vs).map some).reverse ++ ρ = (vs.map some).reverse ++ (some v0 :: ρ) := by simp
    have e2 : (Cell.own s (some v0) :: cells a).reverse ++ Θ = (cells a).reverse ++ (Cell.own s (some v0) :: Θ) := by simp
    rw [e1, e2, List.zip_append lr, List.zip_cons_cons, List.zip_append lr, List.zip_cons_cons]
    exact List.perm_middle.symm
  have E3 := E2.enter (vs := (v0 :: vs).map some) (cs := Cell.own s (some v0) :: cells a) (by simp [hn, hc])
  have ls : (σ.set i none).length = (Γ.set i Cell.any).length := by simp [E.1]
  refine ⟨by simp [hn], s, a, I, _, _, E3, ?_⟩
  refine wp_mono h (fun b q I' H' v E' => ?_) fun e x I' H' cls d hm E' => ?_
  · have E4 : Env K I' H' (σ.set i none) (Γ.set i .any) (some v0 :: some v :: ρ) (.own b.2 pn :: oc b.1 :: Θ) := by
      have lz := E'.2.1
      simp only [List.length_cons, List.length_append] at lz
      have E'2 : EnvL K I' H' ((some v0, .own b.2 (some v0)) :: ((some v :: (σ.set i none ++ ρ)).zip (oc b.1 :: (Γ.set i Cell.any ++ Θ)))) := E'.2.2
      refine ⟨ls, by simp only [List.length_cons]; omega, (E'2.repin hpin).perm ?_⟩
      have e3 : ((some v :: (σ.set i none ++ ρ)).zip (oc b.1 :: (Γ.set i Cell.any ++ Θ))) = (some v, oc b.1) :: ((σ.set i none).zip (Γ.set i .any) ++ ρ.zip Θ) := by
        rw [List.zip_cons_cons, List.zip_append ls]
      show (((some v0, Cell.own b.2 pn) :: []) ++ ((some v :: (σ.set i none ++ ρ)).zip (oc b.1 :: (Γ.set i Cell.any ++ Θ)))).Perm _
      rw [e3]
      show ((some v0, Cell.own b.2 pn) :: (some v, oc b.1) :: ((σ.set i none).zip (Γ.set i .any) ++ ρ.zip Θ)).Perm ((σ.set i none).zip (Γ.set i .any) ++ ((some v0, Cell.own b.2 pn) :: (some v, oc b.1) :: ρ.zip Θ))
      exact ((List.perm_middle.symm).cons _).trans List.perm_middle.symm
    have E5 := E4.store (i := i) (by simpa using hi) rfl
    rw [List.set_set, List.set_set, set_same h0] at E5
    exact next b I' H' v E5 q
  · have E4 := E'.leave (σ := σ.set i none) (Γ := Γ.set i .any) ls
    have E5 : Env K I' H' σ (Γ.set i .any) (some d :: ρ) (.im (XD.mk e.fs) :: Θ) := by
      have q := Env.store (i := i) (c := .any) (o := some v0) (E4.toStack E4.2.2.any) (by simpa using hi) rfl
      rw [List.set_set, List.set_set, set_same h0] at q
      exact q
    exact hX e x I' H' cls d hm E5
theorem st_callO {S A B : Type} [Own S] {cells : A → List Cell} {m : S → A → Res (B × S)} {oc : B → Cell} {vs : List V} {s : S} (a : A) {k : B × S → Res ω} (hΓ : Γ[i]? = some (.own s pn)) (h0 : σ[i]? = some (some v0))
    (E : Env K I H σ Γ ((vs.map some).reverse ++ ρ) ((cells a).reverse ++ Θ)) (hn : vs.length = n) (hc : (cells a).length = n)
    (h : wp ((m s a).bind k) P X) (hX : ∀ e, X e → XWish K mg W σ (Γ.set i .any) ρ Θ e)
    (next : ∀ b I' H' v, Env K I' H' σ (Γ.set i (.own b.2 pn)) (some v :: ρ) (oc b.1 :: Θ) → wp (k b) P X → Q v H') : SpO K mg n cells m oc (v0 :: vs) H Q (WE W σ) :=
  st_callO' a hΓ h0 E hn hc (wp_bind.mp h) hX next
/-- the first argument, an owned one: its value -/
theorem st_varO [Own α] {a : α} {Q : VK} (E : Env K I H σ Γ ρ Θ) (hΓ : Γ[i]? = some (.own a pn)) (next : ∀ v, σ[i]? = some (some v) → Q v H) : tVar i σ H Q := by
  obtain ⟨o, r, ho, e, _⟩ := E.pick hΓ
  obtain ⟨_, fs, h1, _⟩ := e
  cases fs with
  | nil => exact h1.elim
  | cons f fs =>
    obtain ⟨v, e1, _, _⟩ := h1.1
    have e1 : o = some v := e1
    subst e1
    exact ⟨v, ho, next v ho⟩
end
/-! ### calls with keywords, what is raised wished for at the caller's slots -/
section
variable {X : Cx} {CX : CXT} {k : Nat} {f : Addr} {fd : FuncData} {ps : List Str} {sp : Sp} {E : L2.St → XK} {x : Str} {p pos : Pos} {e : Expr} {es : List Expr} {ta : TE} {t tk : TA} {ks : List Str} {kws : List Keyword} {g : List Value → List Value → List Value} {gV : List V → List V → List V}
def tCallKS (n m : Nat) (sp : Sp) (gV : List V → List V → List V) (E : L2.St → XK) (t tk : TA) : TE := fun σ H Q => t σ H fun vs H1 => tk σ H1 fun zs H2 => vs.length = n ∧ zs.length = m ∧ sp (gV vs zs) H2 Q (E σ)
theorem run_fnKS {n : Nat} {pins : List (Addr × Obj)} {σ : L2.St} {H : Hp} {s : Shared} {Q : VK} {us ws : List Value} {vs zs : List V} (F : FnOk X.prog X.w X.K X.mg X.base CX k f fd ps sp) (hr : Room k X.A) (hb : KBn X.K fd ps n ks g gV) (hx : PassesAt CX X σ (E σ))
    (I : Inv X pins σ H s) (r : Vals vs us) (rz : Vals zs ws) (l1 : vs.length = n) (l2 : zs.length = ks.length) (h : sp (gV vs zs) H Q (E σ)) : wpAny (model X.prog X.w) X.A (call (.ref f) us (ks.zip ws)) (EP X pins σ Q) X.xe s := by
  have r2 := hb.rel r rz
  refine wpAny_call (codeAny_mono (F.run X.A X.stack s H ⟨us, ks.zip ws⟩ (g us ws) (gV vs zs) Q (E σ) hr I.env0 (hb.to s us ws I.kIn (r.length.symm.trans l1) (rz.length.symm.trans l2)) r2 h) fun r s' hq => ?_)
  cases r with
  | error e => exact hx pins H s e s' I hq
  | ok fl =>
    cases fl with
    | ret u => exact I.after hq
    | next => exact False.elim hq
    | brk => exact False.elim hq
    | cont => exact False.elim hq
theorem pe_callKS {n : Nat} (F : FnOk X.prog X.w X.K X.mg X.base CX k f fd ps sp) (hr : Room k X.A) (hg : Gl X x) (hm : X.mg x = some (.ref f)) (hk : PySem.W.keepIn X.K (.ref f) = true) (hb : KBn X.K fd ps n ks g gV) (hx : ∀ σ, PassesAt CX X σ (E σ))
    (ha : PA X (e :: es) t) (hkw : PK X kws tk) (hall : (backToKw pos (keywordEach kws X.env)).all (·.1.isSome) = true := by rfl) (hks : (backToKw pos (keywordEach kws X.env)).filterMap (·.1) = ks := by rfl)
    (hdb : (x == ("__debug__" : Str)) = false := by decide) (he : starEach (e :: es) X.env = (false, eval e X.env) :: starEach es X.env := by rfl)
    (hpl : ((backTo pos (starEach (e :: es) X.env)).any (·.1) || (backToKw pos (keywordEach kws X.env)).any (·.1.isNone)) = false := by rfl) :
    PE X (.Call (.Name x p) (e :: es) kws pos) (tCallKS n ks.length sp gV E t tk) := by
  refine ⟨fun pins s σ H Q I h => ?_⟩
  refine wpAny_Call_Name_kw (ld_glob I hg hm ?_ hdb)
  refine PySem.W.callWith_KW (h₀ := X.base) I.ok.mod.kin hk hall (thn (ha.run pos pins s σ H _ I h) fun us s1 ⟨vs, H1, I1, r, q⟩ => ?_) hpl he
  refine thn (hkw.run pos pins s1 σ H1 _ I1 q) fun ws s2 ⟨zs, H2, I2, rz, l1, l2, q2⟩ => ⟨I2.kIn, ?_⟩
  rw [hks]
  exact run_fnKS F hr hb (hx σ) I2 r rz l1 l2 q2
/-- keywords alone -/
theorem pe_callKS0 (F : FnOk X.prog X.w X.K X.mg X.base CX k f fd ps sp) (hr : Room k X.A) (hg : Gl X x) (hm : X.mg x = some (.ref f)) (hk : PySem.W.keepIn X.K (.ref f) = true) (hb : KBn X.K fd ps 0 ks g gV) (hx : ∀ σ, PassesAt CX X σ (E σ))
    (hkw : PK X kws tk) (hall : (backToKw pos (keywordEach kws X.env)).all (·.1.isSome) = true := by rfl) (hks : (backToKw pos (keywordEach kws X.env)).filterMap (·.1) = ks := by rfl)
    (hdb : (x == ("__debug__" : Str)) = false := by decide) (hpl : (backToKw pos (keywordEach kws X.env)).any (·.1.isNone) = false := by rfl) :
    PE X (.Call (.Name x p) [] kws pos) (tCallKS 0 ks.length sp gV E tNil tk) := by
  refine ⟨fun pins s σ H Q I h => ?_⟩
  refine wpAny_Call_Name_kw (ld_glob I hg hm ?_ hdb)
  refine PySem.W.callWith_KW0 (h₀ := X.base) I.ok.mod.kin hk hall ?_ hpl
  refine thn (hkw.run pos pins s σ H _ I h) fun ws s2 ⟨zs, H2, I2, rz, l1, l2, q2⟩ => ⟨I2.kIn, ?_⟩
  rw [hks]
  exact run_fnKS (us := []) (vs := []) F hr hb (hx σ) I2 .nil rz rfl l2 q2
end
/-- values by their places: the positional ones, then the keywords' -/
def gI {α : Type} (ix : List Nat) (us ws : List α) : List α := ix.filterMap fun i => (us ++ ws)[i]?
theorem gI_rel {ix : List Nat} {vs zs : List V} {us ws : List Value} (r : Vals vs us) (rz : Vals zs ws) : Vals (gI ix vs zs) (gI ix us ws) := by
  have q := r.append rz
  unfold gI
  induction ix with
  | nil => exact .nil
  | cons i ix ih =>
    cases e : (vs ++ zs)[i]? with
    | none =>
      rw [List.filterMap_cons_none e, List.filterMap_cons_none (q.none_of e)]
      exact ih
    | some v =>
      obtain ⟨u, e2, ru⟩ := q.get e
      rw [List.filterMap_cons_some e, List.filterMap_cons_some e2]
      exact .cons ru ih
theorem kbn_of {K : PySem.W.Frag} {x qual : Str} {st : Stmt} {f : Addr} {fd : FuncData} {ps ks : List Str} {n : Nat} (ix : List Nat) (F : Fun K x qual st f fd)
    (h : ∀ (kV doc pm : Value) (an : Option Addr) (cdv ct : Value) (us ws : List Value), us.length = n → ws.length = ks.length → bindArgs (PySem.W.fnOf x qual (defArgs st) (defBody st) (defScope st) .none kV doc pm an cdv ct) ⟨us, ks.zip ws⟩ = pure (ps.zip (gI ix us ws))) :
    KBn K fd ps n ks (gI ix) (gI ix) := by
  obtain ⟨oc, od, kV, doc, pm, an, cdv, ct, osl, rfl, lk, hcd⟩ := F.ex
  exact ⟨fun s us ws _ h1 h2 => .of_eq (h kV doc pm an cdv ct us ws h1 h2), gI_rel⟩
end M
namespace M
open PySem PySem.Spec PyProof.Rows L2
/-! ### texts: times, backward, truth; isinstance -/
noncomputable def xRep (w : Tx) (n : Int) : Res Tx := clo (if -(2 ^ 63) ≤ n ∧ n < 2 ^ 63 ∧ w.length * n.toNat ≤ line then .ok (List.replicate n.toNat w).flatten else .bad)
def rRepS : R2 := fun x y H Q => ∃ z i, x = .str z ∧ y = .int i ∧ -(2 ^ 63) ≤ i ∧ i < 2 ^ 63 ∧ z.length * i.toNat ≤ sizeLine ∧ Q (.str ⟨((List.replicate i.toNat z.cps.toList).flatten).toArray⟩) H
theorem fold_rep (c : Array Nat) : ∀ (n : Nat) (a : Array Nat), ((List.replicate n c).foldl (· ++ ·) a).toList = a.toList ++ (List.replicate n c.toList).flatten
  | 0, a => by simp
  | n + 1, a => by
    rw [List.replicate_succ, List.foldl_cons, fold_rep c n, List.replicate_succ, List.flatten_cons]
    simp
theorem op_rep_str {X : Cx} : OpR X (binaryOp .Mult) rRepS := by
  intro pins s σ H x y v u Q I rx ry h
  obtain ⟨z, i, rfl, rfl, h1, h2, hz, q⟩ := h
  obtain ⟨t, rfl⟩ := rx
  obtain ⟨t', rfl⟩ := ry
  have sl : (sizeLine : Nat) = 16777216 := sizeLine_eq
  refine P.mul_str ?_ ?_ ?_ ?_
  · have e1 : ¬ i < -(2 ^ 63 : Int) := by omega
    have e2 : ¬ i ≥ 2 ^ 63 := by omega
    rw [decide_eq_false e1, decide_eq_false e2]; rfl
  · intro hi _ hb
    have hp : (0 : Int) < i := by omega
    have h3 : (z.length : Int) * i ≤ 16777216 := by
      have e : i = ((i.toNat : Nat) : Int) := by omega
      rw [e]
      have : ((z.length * i.toNat : Nat) : Int) ≤ 16777216 := by omega
      simpa using this
    have h4 : (2 ^ 63 - 1) / i < (z.length : Int) := hb
    have h5 : (2 ^ 63 - 1 : Int) < (z.length : Int) * i := Int.lt_mul_of_ediv_lt hp h4
    omega
  · intro _ _
    exact decide_eq_false (Nat.not_lt.mpr hz)
  · by_cases hi : i < 1
    · rw [if_pos hi]
      have e : i.toNat = 0 := by omega
      rw [e] at q
      exact ⟨by decide, .str _, H, I.tok _, ⟨_, rfl⟩, q⟩
    · rw [if_neg hi]
      by_cases hb : (i == 1 || z.length == 0) = true
      · rw [if_pos hb]
        have e : (⟨((List.replicate i.toNat z.cps.toList).flatten).toArray⟩ : Str) = z := by
          apply ext_toList
          show (List.replicate i.toNat z.cps.toList).flatten = z.cps.toList
          rcases (Bool.or_eq_true _ _).mp hb with e | e
          · have : i = 1 := by simpa using e
            rw [this]
            simp
          · have : z.cps.size = 0 := by simpa [Str.length] using e
            have e2 : z.cps.toList = [] := by simpa using this
            rw [e2]
            simp
        rw [e] at q
        exact ⟨.str z, H, I, ⟨_, rfl⟩, q⟩
      · rw [if_neg hb]
        have e : (⟨((List.replicate i.toNat z.cps.toList).flatten).toArray⟩ : Str) = ⟨(List.replicate i.toNat z.cps).foldl (· ++ ·) #[]⟩ := by
          apply ext_toList
          rw [fold_rep]
          simp
        rw [e] at q
        refine ⟨?_, .str _, H, I.tok _, ⟨_, rfl⟩, q⟩
        show ((List.replicate i.toNat z.cps).foldl (· ++ ·) #[]).size ≤ sizeLine
        have e2 : ((List.replicate i.toNat z.cps).foldl (· ++ ·) #[]).size = z.length * i.toNat := by
          rw [← Array.length_toList, fold_rep]
          simp [Str.length, Nat.mul_comm]
        rw [e2]
        exact hz
theorem hr_repT {x : Tx} {y : Int} : HR rRepS x y (xRep x y) := .mk fun X Q _ _ q => by
  unfold xRep at q
  rw [clo_eq] at q
  split at q
  · rename_i h
    refine ⟨mkS x, y, rfl, rfl, h.1, h.2.1, by rw [mkS_len, ← line_eq]; exact h.2.2, ?_⟩
    rw [mkS_list]
    refine q ?_
    show ((List.replicate y.toNat x).flatten).length ≤ line
    rw [List.length_flatten, List.map_replicate, List.sum_replicate_nat, Nat.mul_comm]
    exact h.2.2
  · exact q.elim
/-- s[::-1] -/
def tRevS (te : TE) : TE := fun σ H Q => te σ H fun x H1 => ∃ z, x = .str z ∧ z.length ≤ sizeLine ∧ Q (.str ⟨z.cps.toList.reverse.toArray⟩) H1
theorem pe_revS {X : Cx} {e : Expr} {te : TE} {k : Nat} {p1 p2 p3 pos : Pos} (he : PE X e te) : PE X (.Subscript e (.Slice none none (some (.UnaryOp .USub (.Constant (.int 1) k p1) p2)) p3) pos) (tRevS te) := by
  refine ⟨fun pins s σ H Q I h => ?_⟩
  refine Subscript_ (thn (he.run pins s σ H _ I h) fun v s1 ⟨x, H1, I1, r1, q1⟩ => ?_)
  obtain ⟨z, ex, hz, q⟩ := q1
  subst ex
  obtain ⟨t, rfl⟩ := r1
  have hst : PO X (some (.UnaryOp .USub (.Constant (.int 1) k p1) p2)) (tPart (tUn (rU fun i => .int (-i)) (tC (.int 1)))) := po_some (pe_un un_neg pe_int)
  refine wpAny_Slice (thn (po_none.run pins s1 σ H1 (fun o H2 => o = none ∧ H2 = H1) I1 ⟨rfl, rfl⟩) fun vl s2 ⟨l, H2, I2, pl, el, e2⟩ => ?_)
  subst el e2
  refine thn (po_none.run pins s2 σ H2 (fun o H3 => o = none ∧ H3 = H2) I2 ⟨rfl, rfl⟩) fun vu s3 ⟨u, H3, I3, pu, eu, e3⟩ => ?_
  subst eu e3
  refine thn (hst.run pins s3 σ H3 (fun o H4 => o = some (-1) ∧ H4 = H3) I3 ⟨1, rfl, -1, rfl, rfl, rfl⟩) fun vs s4 ⟨o, H4, I4, ps, eo, e4⟩ => ?_
  subst eo e4
  have I5 : Inv X pins σ H4 { s4 with heap := s4.heap.push { cls := .type "slice", data := .fields #[vl, vu, vs] } } := I4.kept (t' := s4.toks) fun b ob q => Heap.get?_push_of_some _ q
  obtain ⟨l, rfl, el⟩ := IsPart.raw pl
  obtain ⟨u, rfl, eu⟩ := IsPart.raw pu
  obtain ⟨st, rfl, es⟩ := IsPart.raw ps
  have hl : l = none := by cases l <;> simp at el ⊢
  have hu : u = none := by cases u <;> simp at eu ⊢
  subst hl hu
  obtain ⟨d, tk, rfl⟩ : ∃ d tk, st = some (d, tk) := by
    cases st with
    | none => simp at es
    | some p => exact ⟨p.1, p.2, rfl⟩
  have hd : d = -1 := by
    have z : (-1 : Int) = d := by simpa using es.symm
    exact z.symm
  subst hd
  refine tail_any (T := "str") (ops := [.str z t, .ref s4.heap.objs.size]) (typeIs_str _ _ _) (F.slot_str_getitem.lookup) ?_ (by with_unfolding_all rfl)
  refine wpAny_getItem_str_slice (l := none) (u := none) (st := some (-1, tk)) ⟨_, Heap.get?_push_size _ rfl, rfl, rfl⟩ (by rfl) ?_
  have e : (⟨((slicePicked z none none (some (-1, tk))).filterMap (z.cps[·]?)).toArray⟩ : Str) = ⟨z.cps.toList.reverse.toArray⟩ := by
    have hr := step_rev_list z tk
    have e0 : (Txt.sliceBy z none none (-1, tk)) = ⟨((slicePicked z none none (some (-1, tk))).filterMap (z.cps[·]?)).toArray⟩ := by
      unfold Txt.sliceBy
      exact if_neg (by simp)
    rw [e0] at hr
    apply ext_toList
    refine hr.trans ?_
    show _ = z.cps.toList.reverse
    apply List.ext_getElem
    · simp [Str.length]
    · intro i h1 h2
      have hi : i < z.length := by simpa using h1
      have hi2 : i < z.cps.size := hi
      rw [List.getElem_map, List.getElem_range, List.getElem_reverse]
      have h3 : z.length - 1 - i < z.cps.size := by
        have : z.length = z.cps.size := rfl
        omega
      simp only [Array.getD, h3, dif_pos, Array.getElem_toList]
      first | rfl | simp [Str.length]
  show (sliceMade z t none none (some (-1, tk))).post _ _
  unfold sliceMade
  rw [if_neg (by simp), e]
  refine ⟨?_, .str _, H4, I5.tok _, ⟨_, rfl⟩, q⟩
  show (z.cps.toList.reverse.toArray).size ≤ sizeLine
  simpa [Str.length] using hz
section
variable {K : PySem.W.Frag} {Γ : List Cell} {te : TE} {i : Nat} {P : Prop}
theorem hf_revp {w : Tx} (u : Unit) (h : HF K te Γ (.ok w)) : HF K (tRevS te) Γ (.ok w.reverse) := .mk fun X Q E q => h.run X _ E fun ok => ⟨mkS w, rfl, by rw [mkS_len, ← line_eq]; exact ok, by
  rw [mkS_list]
  exact q (by show w.reverse.length ≤ line; rw [List.length_reverse]; exact ok)⟩
theorem hf_revm {m : Res Tx} (u : Tx → Unit) (h : HF K te Γ m) : HF K (tRevS te) Γ (m.bind fun w => .ok w.reverse) := .mk fun X Q E q => h.run X _ E (wpb q fun w q ok => ⟨mkS w, rfl, by rw [mkS_len, ← line_eq]; exact ok, by
  rw [mkS_list]
  exact q (by show w.reverse.length ≤ line; rw [List.length_reverse]; exact ok)⟩)
def tTrq (K : PySem.W.Frag) (te : TE) : TT := fun σ H Q => te σ H fun x H' => ∃ k, TruV K x H' k ∧ Q k H'
theorem ht_truT_p {w : Tx} (h : HF K te Γ (.ok w)) : HT K (tTrq K te) Γ (.ok (!w.isEmpty)) := .mk fun X Q E q => h.run X _ E fun ok => ⟨!w.isEmpty, ⟨by rw [mkS_len, ← line_eq]; exact ok, by rw [mkS_len]; cases w <;> simp <;> omega⟩, q⟩
theorem ht_truT_m {m : Res Tx} (h : HF K te Γ m) : HT K (tTrq K te) Γ (m.bind fun w => .ok (!w.isEmpty)) := .mk fun X Q E q => h.run X _ E (wpb q fun w q ok => ⟨!w.isEmpty, ⟨by rw [mkS_len, ← line_eq]; exact ok, by rw [mkS_len]; cases w <;> simp <;> omega⟩, q⟩)
/-! isinstance of what is known, a built-in class -/
def tIsi (K : PySem.W.Frag) (i : Nat) (T : String) : TE := tCB (rIsi K) (tCons (tVar i) (tCons (tC (.ty T)) tNil))
section
variable {T : String} {b : Bool}
theorem hf_isI {n : Int} (hΓ : Γ[i]? = some (.im n)) (e : ∀ K, PySem.W.kitOne K (.type "int") (.type T) = some b) : HF K (tIsi K i T) Γ (.ok b) := .mk fun X Q E q => ⟨_, (E.sca hΓ).1, _, _, _, _, b, rfl, .ty T, .base (.int n), e K, q trivial⟩
theorem hf_isB {n : Bool} (hΓ : Γ[i]? = some (.im n)) (e : ∀ K, PySem.W.kitOne K (.type "bool") (.type T) = some b) : HF K (tIsi K i T) Γ (.ok b) := .mk fun X Q E q => ⟨_, (E.sca hΓ).1, _, _, _, _, b, rfl, .ty T, .base (.bl n), e K, q trivial⟩
theorem hf_isT {n : Tx} (hΓ : Γ[i]? = some (.im n)) (e : ∀ K, PySem.W.kitOne K (.type "str") (.type T) = some b) : HF K (tIsi K i T) Γ (.ok b) := .mk fun X Q E q => ⟨_, (E.sca hΓ).1, _, _, _, _, b, rfl, .ty T, .base (.str _), e K, q trivial⟩
theorem hf_isL {α : Type} [Rep α] {xs : List α} (hΓ : Γ[i]? = some (.im xs)) (e : ∀ K, PySem.W.kitOne K (.type "list") (.type T) = some b) : HF K (tIsi K i T) Γ (.ok b) := .mk fun X Q E q => by
  obtain ⟨a, vs, hs, ha, _⟩ := E.listAt hΓ
  exact ⟨_, hs, _, _, _, _, b, rfl, .ty T, .base (.lst ha), e K, q trivial⟩
theorem hf_isLO {α : Type} [Rep α] {xs : List α} {pn : Option V} (hΓ : Γ[i]? = some (.own xs pn)) (e : ∀ K, PySem.W.kitOne K (.type "list") (.type T) = some b) : HF K (tIsi K i T) Γ (.ok b) := .mk fun X Q E q => by
  obtain ⟨a, vs, hs, ha, _⟩ := E.ownAt' hΓ
  exact ⟨_, hs, _, _, _, _, b, rfl, .ty T, .base (.lst ha), e K, q trivial⟩
end
end
end M
namespace M
open PySem PySem.Spec PyProof.Rows L2
/-! ### == of data -/
class Dat (α : Type) [Rep α] [DecidableEq α] where
  toD : α → PyData
  dp : ∀ {K : PySem.W.Frag} {I : Hp} {v : V} {x : α}, Rep.rp K I v x → Dp K I v (toD x)
  eq : ∀ x y : α, PyData.eqv (toD x) (toD y) = decide (x = y)
  dep : Nat
  depth : ∀ x : α, (toD x).depth ≤ dep
instance datInt : Dat Int := ⟨.int, fun {_ _ v x} h => by
  have h : v = V.int x ∧ True := h
  rw [h.1]; exact .int x, fun x y => by
  show (x == y) = _
  by_cases e : x = y <;> simp [e], 0, fun _ => Nat.le_refl _⟩
instance datBool : Dat Bool := ⟨.bool, fun {_ _ v x} h => by
  have h : v = V.bl x ∧ True := h
  rw [h.1]; exact .bl x, fun x y => by
  show (x == y) = _
  by_cases e : x = y <;> simp [e], 0, fun _ => Nat.le_refl _⟩
theorem mkS_beq (x y : Tx) : (mkS x == mkS y) = decide (x = y) := by
  by_cases e : x = y
  · subst e; simp
  · rw [decide_eq_false e]
    exact beq_eq_false_iff_ne.mpr fun q => e (mkS_inj q)
instance datTx : Dat Tx := ⟨fun w => .str (mkS w), fun {_ _ v x} h => by
  have h : v = V.str (mkS x) ∧ _ := h
  rw [h.1]; exact .str _, fun x y => mkS_beq x y, 0, fun _ => Nat.le_refl _⟩
section
variable {α β : Type} [Rep α] [DecidableEq α] [Dat α] [Rep β] [DecidableEq β] [Dat β]
theorem dpAll {K : PySem.W.Frag} {I : Hp} : ∀ {vs : List V} {xs : List α}, Paired (fun v x => Rep.rp K I v x) vs xs → DpAll K I vs (xs.map Dat.toD)
  | _, _, .nil => .nil
  | _, _, .cons r t => .cons (Dat.dp r) (dpAll t)
theorem eqvAll : ∀ xs ys : List α, PyData.eqvAll (xs.map Dat.toD) (ys.map Dat.toD) = decide (xs = ys)
  | [], [] => rfl
  | [], y :: ys => rfl
  | x :: xs, [] => rfl
  | x :: xs, y :: ys => by
    show (PyData.eqv (Dat.toD x) (Dat.toD y) && PyData.eqvAll (xs.map Dat.toD) (ys.map Dat.toD)) = _
    rw [Dat.eq, eqvAll xs ys]
    by_cases e : x = y <;> by_cases e2 : xs = ys <;> simp [e, e2]
theorem depthAll (xs : List α) : PyData.depthAll (xs.map Dat.toD) ≤ Dat.dep α := by
  induction xs with
  | nil => exact Nat.zero_le _
  | cons x xs ih =>
    show max (PyData.depth (Dat.toD x)) (PyData.depthAll (xs.map Dat.toD)) ≤ _
    exact Nat.max_le.mpr ⟨Dat.depth x, ih⟩
instance datList : Dat (List α) := ⟨fun xs => .list (xs.map Dat.toD), fun {K I v x} h => by
  obtain ⟨a, vs, rfl, hq, p⟩ := h
  exact .lst (SqL.of hq) (dpAll p), fun x y => eqvAll x y, Dat.dep α + 1, fun x => Nat.succ_le_succ (depthAll x)⟩
instance : DecidableEq (TupL α) := fun x y => decidable_of_iff (x.l = y.l) ⟨fun h => by cases x; cases y; simpa using h, fun h => by rw [h]⟩
instance datTupL : Dat (TupL α) := ⟨fun xs => .tuple (xs.l.map Dat.toD), fun {K I v x} h => by
  obtain ⟨a, vs, rfl, hq, p⟩ := h
  exact .tup hq (dpAll p), fun x y => by
  refine (eqvAll x.l y.l).trans ?_
  by_cases e : x.l = y.l
  · have : x = y := by cases x; cases y; simpa using e
    simp [this]
  · have : x ≠ y := fun z => e (by rw [z])
    simp [e, this], Dat.dep α + 1, fun x => Nat.succ_le_succ (depthAll x.l)⟩
instance datPair : Dat (α × β) := ⟨fun x => .tuple [Dat.toD x.1, Dat.toD x.2], fun {K I v x} h => by
  obtain ⟨a, v1, v2, rfl, hq, p1, p2⟩ := h
  exact .tup hq (.cons (Dat.dp p1) (.cons (Dat.dp p2) .nil)), fun x y => by
  show (PyData.eqv (Dat.toD x.1) (Dat.toD y.1) && (PyData.eqv (Dat.toD x.2) (Dat.toD y.2) && true)) = _
  rw [Dat.eq, Dat.eq]
  obtain ⟨x1, x2⟩ := x
  obtain ⟨y1, y2⟩ := y
  by_cases e : x1 = y1 <;> by_cases e2 : x2 = y2 <;> simp [e, e2], max (Dat.dep α) (Dat.dep β) + 1, fun x => by
  show max (PyData.depth (Dat.toD x.1)) (max (PyData.depth (Dat.toD x.2)) 0) + 1 ≤ _
  have h1 := Dat.depth x.1
  have h2 := Dat.depth x.2
  omega⟩
end
/-- == of data; texts with codes that no sign has are none -/
def eqD {α : Type} [Rep α] [DecidableEq α] [Dat α] (x y : α) : Res Bool := if (PyData.canLay0 (Dat.toD x) && PyData.canLay0 (Dat.toD y)) = true then .ok (decide (x = y)) else .bad
def neD {α : Type} [Rep α] [DecidableEq α] [Dat α] (x y : α) : Res Bool := if (PyData.canLay0 (Dat.toD x) && PyData.canLay0 (Dat.toD y)) = true then .ok (!decide (x = y)) else .bad
theorem lay_ints (xs : List Int) : PyData.canLay0 (Dat.toD xs) = true := by
  show PyData.canLayAll0 (xs.map Dat.toD) = true
  induction xs with
  | nil => rfl
  | cons x xs ih =>
    show (PyData.canLay0 (.int x) && PyData.canLayAll0 (xs.map Dat.toD)) = true
    rw [ih]; rfl
@[simp] theorem eqD_ints (x y : List Int) : eqD x y = .ok (decide (x = y)) := by
  unfold eqD
  rw [lay_ints, lay_ints]
  rfl
@[simp] theorem neD_ints (x y : List Int) : neD x y = .ok (!decide (x = y)) := by
  unfold neD
  rw [lay_ints, lay_ints]
  rfl
section
variable {K : PySem.W.Frag} {mg : Str → Option Value} {I H I' H' : Hp} {σ σ' ρ : List (Option V)} {Γ Γ' Θ : List Cell} {i j n : Nat} {v v0 v1 v2 v3 : V} {c c1 c2 c3 c4 : Cell} {o1 o2 o3 o4 : Option V} {te tl ti : TE} {ta : TA} {tt : TT} {t u : TS} {dn db dc : L2.St → Hp → Prop} {dr : VK} {Q : VK} {W : WX}
variable {pn : Option V} {ω : Type} {P : ω → Prop} {X : Exn → Prop} {α β γ δ : Type}
theorem shp [Rep α] [DecidableEq α] [Dat α] {x : α} (h : PyData.canLay0 (Dat.toD x) = true) (hd : Dat.dep α ≤ 64) : SeqAt.shaped (Dat.toD x) = true := by
  unfold SeqAt.shaped
  rw [h, Bool.true_and]
  exact decide_eq_true (Nat.le_trans (Dat.depth x) hd)
theorem st_eqD [Rep α] [DecidableEq α] [Dat α] {x y : α} {k : Bool → Res ω} (E : Env K I H σ Γ (some v2 :: some v1 :: ρ) (.im y :: .im x :: Θ)) (hd : Dat.dep α ≤ 64) (h : wp ((eqD x y).bind k) P X)
    (next : ∀ b v, Env K I H σ Γ (some v :: ρ) (.im b :: Θ) → wp (k b) P X → Q v H) : OpG (rEqD K) v1 v2 H Q := by
  unfold eqD at h
  split at h
  · rename_i hb
    have hb := (Bool.and_eq_true _ _).mp hb
    refine ⟨_, _, Dat.dp (Rep.mono E.same E.pop.topR), Dat.dp (Rep.mono E.same E.topR), shp hb.1 hd, shp hb.2 hd, ?_⟩
    rw [Dat.eq]
    exact next _ _ (E.pop.pop.pushS (a := decide (x = y)) trivial) h
  · exact h.elim
theorem st_neD [Rep α] [DecidableEq α] [Dat α] {x y : α} {k : Bool → Res ω} (E : Env K I H σ Γ (some v2 :: some v1 :: ρ) (.im y :: .im x :: Θ)) (hd : Dat.dep α ≤ 64) (h : wp ((neD x y).bind k) P X)
    (next : ∀ b v, Env K I H σ Γ (some v :: ρ) (.im b :: Θ) → wp (k b) P X → Q v H) : OpG (rNeD K) v1 v2 H Q := by
  unfold neD at h
  split at h
  · rename_i hb
    have hb := (Bool.and_eq_true _ _).mp hb
    refine ⟨_, _, Dat.dp (Rep.mono E.same E.pop.topR), Dat.dp (Rep.mono E.same E.topR), shp hb.1 hd, shp hb.2 hd, ?_⟩
    rw [Dat.eq]
    exact next _ _ (E.pop.pop.pushS (a := !decide (x = y)) trivial) h
  · exact h.elim
/-- an owned list against [] -/
theorem paired_dp0 {K : PySem.W.Frag} {H : Hp} {p : Addr} (hp : H p = some (.lst [])) : Dp K H (.ref p) (.list []) := .lst (SqL.of hp) .nil
theorem st_eqOnil [Sca α] [DecidableEq α] [Dat α] {xs : List α} (E : Env K I H σ Γ ρ Θ) (hΓ : Γ[i]? = some (.own xs pn)) (hl : PyData.canLay0 (Dat.toD xs) = true) (hd : Dat.dep (List α) ≤ 64)
    (next : ∀ H' v, Env K I H' σ Γ (some v :: ρ) (.im (List.isEmpty xs) :: Θ) → Q v H') : tOp (rEqD K) (tVar i) (tLst tNil) σ H Q := by
  obtain ⟨p, vs, hs, hp, _, r, _⟩ := E.ownAt hΓ
  refine ⟨_, hs, Nat.zero_le _, fun q hq => ?_⟩
  have hpq : p ≠ q := fun e => by rw [e, hq] at hp; cases hp
  have E' : Env K I (upd H q (.lst [])) σ Γ ρ Θ := E.grow (Grow.newH E.same hq)
  have rp : Rep.rp K (upd I p (.lst vs)) (.ref p) xs := ⟨p, vs, rfl, upd_same, Paired.monoR (fun _ _ z => z) r⟩
  have d1 : Dp K (upd H q (.lst [])) (.ref p) (Dat.toD xs) := Dat.dp (α := List α) ⟨p, vs, rfl, by rw [upd_ne hpq]; exact hp, Paired.monoR (fun _ _ z => z) r⟩
  refine ⟨_, _, d1, paired_dp0 upd_same, shp hl hd, by decide, ?_⟩
  have e : PyData.eqv (Dat.toD xs) (.list []) = List.isEmpty xs := by
    cases xs with
    | nil => rfl
    | cons x xs => rfl
  rw [e]
  exact next _ _ (E'.pushS trivial)
theorem st_neOnil [Sca α] [DecidableEq α] [Dat α] {xs : List α} (E : Env K I H σ Γ ρ Θ) (hΓ : Γ[i]? = some (.own xs pn)) (hl : PyData.canLay0 (Dat.toD xs) = true) (hd : Dat.dep (List α) ≤ 64)
    (next : ∀ H' v, Env K I H' σ Γ (some v :: ρ) (.im (!List.isEmpty xs) :: Θ) → Q v H') : tOp (rNeD K) (tVar i) (tLst tNil) σ H Q := by
  obtain ⟨p, vs, hs, hp, _, r, _⟩ := E.ownAt hΓ
  refine ⟨_, hs, Nat.zero_le _, fun q hq => ?_⟩
  have hpq : p ≠ q := fun e => by rw [e, hq] at hp; cases hp
  have E' : Env K I (upd H q (.lst [])) σ Γ ρ Θ := E.grow (Grow.newH E.same hq)
  have d1 : Dp K (upd H q (.lst [])) (.ref p) (Dat.toD xs) := Dat.dp (α := List α) ⟨p, vs, rfl, by rw [upd_ne hpq]; exact hp, Paired.monoR (fun _ _ z => z) r⟩
  refine ⟨_, _, d1, paired_dp0 upd_same, shp hl hd, by decide, ?_⟩
  have e : PyData.eqv (Dat.toD xs) (.list []) = List.isEmpty xs := by
    cases xs with
    | nil => rfl
    | cons x xs => rfl
  rw [e]
  exact next _ _ (E'.pushS trivial)
/-! ### tests -/
theorem st_htp {b : Bool} {Q : Bool → Hp → Prop} (E : Env K I H σ Γ ρ Θ) (ht : HT K tt Γ (.ok b)) (next : Q b H) : tt σ H Q := ht.run (fun _ => False) Q E next
theorem st_htm {m : Res Bool} {k : Bool → Res ω} {Q : Bool → Hp → Prop} (E : Env K I H σ Γ ρ Θ) (ht : HT K tt Γ m) (h : wp (m.bind k) P X) (next : ∀ b, wp (k b) P X → Q b H) : tt σ H Q := ht.run X Q E (wpb h next)
theorem st_notV {b : Bool} (E : Env K I H σ Γ (some v :: ρ) (.im b :: Θ)) (next : ∀ v, Env K I H σ Γ (some v :: ρ) (.im (!b) :: Θ) → Q v H) : NotG v H Q := by
  obtain ⟨e, _⟩ := E.topS
  exact ⟨b, e, next _ (E.pop.pushS (a := !b) trivial)⟩
theorem st_vb {b : Bool} {Q : Bool → Prop} (E : Env K I H σ Γ (some v :: ρ) (.im b :: Θ)) (next : Env K I H σ Γ ρ Θ → Q b) : ∃ k, v = .bl k ∧ Q k := by
  obtain ⟨e, _⟩ := E.topS
  exact ⟨b, e, next E.pop⟩
/-! ### calls that let nothing out -/
def noX (m : Res α) : Res α := match m with | .ok a => .ok a | .exc _ => .bad | .bad => .bad
theorem wp_noX {m : Res α} {P : α → Prop} {X Y : Exn → Prop} (h : wp (noX m) P X) : wp m P Y := by
  cases m with
  | ok a => exact h
  | exc e => exact h.elim
  | bad => exact h
theorem wp_noX_bind {m : Res α} {k : α → Res ω} {Y : Exn → Prop} (h : wp ((noX m).bind k) P X) : wp m (fun a => wp (k a) P X) Y := wp_noX (wp_bind.mp h)
theorem st_callX {A B : Type} {cells : A → List Cell} {m : A → Res B} {oc : B → Cell} {vs : List V} {EX : XK} (a : A) {k : B → Res ω} (E : Env K I H σ Γ ((vs.map some).reverse ++ ρ) ((cells a).reverse ++ Θ)) (hn : vs.length = n) (hc : (cells a).length = n)
    (h : wp ((noX (m a)).bind k) P X)
    (next : ∀ b I' H' v, Env K I' H' σ Γ (some v :: ρ) (oc b :: Θ) → wp (k b) P X → Q v H') : SpM K mg n cells m oc vs H Q EX := by
  refine ⟨hn, a, I, σ ++ ρ, Γ ++ Θ, E.enter (by rw [List.length_map, hn, hc]), ?_⟩
  have h2 := wp_noX_bind (Y := fun _ => False) h
  exact wp_mono h2 (fun b q I' H' v E' => next b I' H' v (E'.leave E.1) q) fun e x => x.elim
theorem st_callOX {S A B : Type} [Own S] {cells : A → List Cell} {m : S → A → Res (B × S)} {oc : B → Cell} {vs : List V} {s : S} (a : A) {k : B × S → Res ω} (hΓ : Γ[i]? = some (.own s pn)) (h0 : σ[i]? = some (some v0))
    (E : Env K I H σ Γ ((vs.map some).reverse ++ ρ) ((cells a).reverse ++ Θ)) (hn : vs.length = n) (hc : (cells a).length = n)
    (h : wp ((noX (m s a)).bind k) P X)
    (next : ∀ b I' H' v, Env K I' H' σ (Γ.set i (.own b.2 pn)) (some v :: ρ) (oc b.1 :: Θ) → wp (k b) P X → Q v H') : SpO K mg n cells m oc (v0 :: vs) H Q (WE W σ) :=
  st_callO' a hΓ h0 E hn hc (wp_noX_bind (Y := fun _ => False) h) (fun e x => x.elim) next
end
end M
namespace M
open PySem PySem.Spec PyProof.Rows L2
def lSet {α : Type} (xs : List α) (i : Int) (y : α) : Res (List α) := match ixN xs.length i with | some k => .ok (xs.set k y) | none => .bad
def lPop {α : Type} (xs : List α) : Res (α × List α) := match xs[xs.length - 1]? with | some y => .ok (y, xs.dropLast) | none => .bad
noncomputable def lPopAt {α : Type} (xs : List α) (i : Int) : Res (α × List α) := clo (if -(2 ^ 63) ≤ i ∧ i < 2 ^ 63 then match seqIndex? i xs.length with
  | some k => (match xs[k]? with | some y => .ok (y, xs.eraseIdx k) | none => .bad)
  | none => .bad else .bad)
theorem paired_set {α : Type} {f : V → α → Prop} {v : V} {y : α} (r : f v y) : ∀ {vs : List V} {xs : List α} {k : Nat}, Paired f vs xs → Paired f (vs.set k v) (xs.set k y)
  | _, _, _, .nil => .nil
  | _, _, 0, .cons _ t => .cons r t
  | _, _, k + 1, .cons q t => .cons q (paired_set r t)
theorem paired_erase {α : Type} {f : V → α → Prop} : ∀ {vs : List V} {xs : List α} {k : Nat}, Paired f vs xs → Paired f (vs.eraseIdx k) (xs.eraseIdx k)
  | _, _, _, .nil => .nil
  | _, _, 0, .cons _ t => t
  | _, _, k + 1, .cons q t => .cons q (paired_erase t)
theorem paired_dropLast {α : Type} {f : V → α → Prop} : ∀ {vs : List V} {xs : List α}, Paired f vs xs → Paired f vs.dropLast xs.dropLast
  | _, _, .nil => .nil
  | _, _, .cons q .nil => .nil
  | _, _, .cons q (.cons r t) => .cons q (paired_dropLast (.cons r t))
section
variable {K : PySem.W.Frag} {mg : Str → Option Value} {I H I' H' : Hp} {σ σ' ρ : List (Option V)} {Γ Θ : List Cell} {i j n : Nat} {v v0 v1 v2 v3 : V} {c c1 c2 c3 c4 c5 c6 : Cell} {o1 o2 o3 o4 o5 o6 : Option V} {te tl ti : TE} {ta : TA} {tt : TT} {t u : TS} {dn db dc : L2.St → Hp → Prop} {dr : VK} {Q : VK} {W : WX}
variable {pn : Option V} {ω : Type} {P : ω → Prop} {X : Exn → Prop} {α β γ δ : Type}
theorem Env.sw0 (E : Env K I H σ Γ (o1 :: o2 :: ρ) (c1 :: c2 :: Θ)) : Env K I H σ Γ (o2 :: o1 :: ρ) (c2 :: c1 :: Θ) := E.swap
theorem Env.sw1 (E : Env K I H σ Γ (o1 :: o2 :: o3 :: ρ) (c1 :: c2 :: c3 :: Θ)) : Env K I H σ Γ (o1 :: o3 :: o2 :: ρ) (c1 :: c3 :: c2 :: Θ) :=
  E.sperm (by have := E.2.1; simpa using this) ((List.Perm.swap _ _ _).cons _)
theorem Env.sw2 (E : Env K I H σ Γ (o1 :: o2 :: o3 :: o4 :: ρ) (c1 :: c2 :: c3 :: c4 :: Θ)) : Env K I H σ Γ (o1 :: o2 :: o4 :: o3 :: ρ) (c1 :: c2 :: c4 :: c3 :: Θ) :=
  E.sperm (by have := E.2.1; simpa using this) (((List.Perm.swap _ _ _).cons _).cons _)
theorem Env.sw3 (E : Env K I H σ Γ (o1 :: o2 :: o3 :: o4 :: o5 :: ρ) (c1 :: c2 :: c3 :: c4 :: c5 :: Θ)) : Env K I H σ Γ (o1 :: o2 :: o3 :: o5 :: o4 :: ρ) (c1 :: c2 :: c3 :: c5 :: c4 :: Θ) :=
  E.sperm (by have := E.2.1; simpa using this) ((((List.Perm.swap _ _ _).cons _).cons _).cons _)
theorem Env.sw4 (E : Env K I H σ Γ (o1 :: o2 :: o3 :: o4 :: o5 :: o6 :: ρ) (c1 :: c2 :: c3 :: c4 :: c5 :: c6 :: Θ)) : Env K I H σ Γ (o1 :: o2 :: o3 :: o4 :: o6 :: o5 :: ρ) (c1 :: c2 :: c3 :: c4 :: c6 :: c5 :: Θ) :=
  E.sperm (by have := E.2.1; simpa using this) (((((List.Perm.swap _ _ _).cons _).cons _).cons _).cons _)
/-- script[lo:hi] -/
theorem st_cutScr {xs : Scr} {tl th : TO} {lo hi : Option Int} {k : List Int → Res ω} (E : Env K I H σ Γ (some v :: ρ) (.im xs :: Θ)) (hl : HSl K tl Γ (.ok lo)) (hh : HSl K th Γ (.ok hi)) (h : wp ((Res.ok (cutL xs.l lo hi)).bind k) P X)
    (next : ∀ ys I' H' v, Env K I' H' σ Γ (some v :: ρ) (.im ys :: Θ) → wp (k ys) P X → Q v H') : tl σ H fun l H2 => th σ H2 fun u H3 => rSlL K v l u H3 Q :=
  hl.run (fun _ => False) _ E (hh.run (fun _ => False) _ E (by
    obtain ⟨a, e, hq⟩ := E.topR
    subst e
    have pr : ∀ xs : List Int, Paired (fun v x => Rep.rp K I v x) (xs.map V.int) xs := fun xs => by
      induction xs with
      | nil => exact .nil
      | cons x xs ih => exact .cons ⟨rfl, trivial⟩ ih
    exact ⟨a, _, rfl, E.same.seq hq, st_newI (Env.pop E) (cut_paired (pr xs.l) lo hi) fun I' H' v E' => next _ I' H' v E' h⟩))
theorem st_augp {a b : Int} {f : Int → Int → Int} {k : Int → Res ω} (E : Env K I H σ Γ ρ Θ) (hΓ : Γ[i]? = some (.im a)) (ht : HF K te Γ (.ok b)) (h : wp ((Res.ok (f a b)).bind k) P X) (hi : i < Γ.length)
    (next : ∀ x σ', Env K I H σ' (Γ.set i (.im x)) ρ Θ → wp (k x) P X → dn σ' H) : tAug i te (ipI f) ⟨dn, dr, db, dc⟩ σ H :=
  ⟨_, (E.sca hΓ).1, ht.run (fun _ => False) _ E fun _ => ⟨a, b, rfl, rfl, next _ _ (E.setS (a := f a b) trivial hi rfl) h⟩⟩
theorem st_augm {a : Int} {m : Res Int} {f : Int → Int → Int} {k : Int → Res ω} (E : Env K I H σ Γ ρ Θ) (hΓ : Γ[i]? = some (.im a)) (ht : HF K te Γ m) (h : wp ((m.bind fun b => .ok (f a b)).bind k) P X) (hi : i < Γ.length)
    (next : ∀ x σ', Env K I H σ' (Γ.set i (.im x)) ρ Θ → wp (k x) P X → dn σ' H) : tAug i te (ipI f) ⟨dn, dr, db, dc⟩ σ H :=
  ⟨_, (E.sca hΓ).1, ht.run X _ E (by
    rw [Res.bind_assoc] at h
    exact wpb h fun b h _ => ⟨a, b, rfl, rfl, next _ _ (E.setS (a := f a b) trivial hi rfl) h⟩)⟩
/-- xs[i] = y, y on the stack -/
theorem st_setLm [Rep α] {xs : List α} {y : α} {m : Res Int} {k : List α → Res ω} {Γ' : List α → List Cell} {dn : L2.St → Hp → Prop} (E : Env K I H σ Γ (some v :: ρ) (.im y :: Θ)) (hΓ : Γ[i]? = some (.own xs pn)) (ht : HF K ti Γ m) (h : wp (m.bind fun j => (lSet xs j y).bind k) P X)
    (hs : ∀ x, Γ.set i (.own x pn) = Γ' x) (next : ∀ ys H', Env K I H' σ (Γ' ys) ρ Θ → wp (k ys) P X → dn σ H') : gSub (tVar i) ti rSetL v σ H dn := by
  obtain ⟨p, vs, hs1, hp, _, q, ch, _⟩ := E.ownAt hΓ
  refine ⟨_, hs1, ht.run X _ E (wpb h fun j h _ => ?_)⟩
  unfold lSet at h
  cases e : ixN xs.length j with
  | none => rw [e] at h; exact h.elim
  | some n =>
    rw [e] at h
    refine ⟨p, vs, j, n, rfl, rfl, hp, by rw [Paired.length q]; exact e, ?_⟩
    have z := (ch (Grow.refl E.same) _ _ (paired_set E.topR (k := n) q)).pop
    rw [hs] at z
    exact next _ _ z h
theorem st_setLp [Rep α] {xs : List α} {y : α} {j : Int} {k : List α → Res ω} {Γ' : List α → List Cell} {dn : L2.St → Hp → Prop} (E : Env K I H σ Γ (some v :: ρ) (.im y :: Θ)) (hΓ : Γ[i]? = some (.own xs pn)) (ht : HF K ti Γ (.ok j)) (h : wp ((lSet xs j y).bind k) P X)
    (hs : ∀ x, Γ.set i (.own x pn) = Γ' x) (next : ∀ ys H', Env K I H' σ (Γ' ys) ρ Θ → wp (k ys) P X → dn σ H') : gSub (tVar i) ti rSetL v σ H dn := st_setLm E hΓ ht h hs next
/-- a name for what is on the stack -/
theorem st_name [Rep α] {a : α} {k : α → Res ω} {A : Prop} (E : Env K I H σ Γ ρ (.im a :: Θ)) (h : wp ((Res.ok a).bind k) P X) (next : ∀ x, Env K I H σ Γ ρ (.im x :: Θ) → wp (k x) P X → A) : A := next a E h
theorem st_nameO [Own α] {a : α} {k : α → Res ω} {A : Prop} (E : Env K I H σ Γ ρ (.own a pn :: Θ)) (h : wp ((Res.ok a).bind k) P X) (next : ∀ x, Env K I H σ Γ ρ (.own x pn :: Θ) → wp (k x) P X → A) : A := next a E h
end
/-! ### heads, opened -/
section
variable {K : PySem.W.Frag} {σ : L2.St} {H : Hp} {Q : VK} {B : Bool → Hp → Prop} {te ta tb ti : TE} {tt tu : TT} {t tk : TA} {tl th : TO} {r : R2} {ru : V → Hp → VK → Prop} {rc : List V → Hp → VK → Prop} {rs : V → Option Int → Option Int → Hp → VK → Prop} {A : List V → Hp → Prop} {dn db dc : L2.St → Hp → Prop} {dr : VK} {s1 s2 : TS} {g : TG} {sp : Sp} {E : L2.St → XK} {R : It → Hp → Prop}
theorem uOp (h : ta σ H fun x H1 => tb σ H1 fun y H2 => OpG r x y H2 Q) : tOp r ta tb σ H Q := h
theorem uUn (h : ta σ H fun x H1 => UnG ru x H1 Q) : tUn ru ta σ H Q := h
theorem uCB (h : t σ H fun vs H1 => CbG rc vs H1 Q) : tCB rc t σ H Q := h
theorem uCons (h : ta σ H fun x H1 => t σ H1 fun xs H2 => A (x :: xs) H2) : tCons ta t σ H A := h
theorem uNil (h : A [] H) : tNil σ H A := h
theorem uLst (h : t σ H fun xs H1 => LsG xs H1 Q) : tLst t σ H Q := h
theorem uSl (h : te σ H fun x H1 => tl σ H1 fun l H2 => th σ H2 fun u H3 => rs x l u H3 Q) : tSl rs te tl th σ H Q := h
theorem uCallS (h : t σ H fun vs H1 => sp vs H1 Q (E σ)) : tCallS sp E t σ H Q := h
theorem uCallKS {n m : Nat} {gV : List V → List V → List V} (h : t σ H fun vs H1 => tk σ H1 fun zs H2 => vs.length = n ∧ zs.length = m ∧ sp (gV vs zs) H2 Q (E σ)) : tCallKS n m sp gV E t tk σ H Q := h
theorem uAndV (h : ta σ H fun x H1 => ∃ c, x = .bl c ∧ if c = true then tb σ H1 Q else Q (.bl false) H1) : tAndV ta tb σ H Q := h
theorem uOrV (h : ta σ H fun x H1 => ∃ c, x = .bl c ∧ if c = true then Q (.bl true) H1 else tb σ H1 Q) : tOrV ta tb σ H Q := h
theorem uNotV (h : ta σ H fun x H1 => NotG x H1 Q) : tNotV ta σ H Q := h
theorem uTest (h : te σ H fun x H' => ∃ k, x = .bl k ∧ B k H') : tTest te σ H B := h
theorem uB (h : te σ H fun x H' => ∃ k, x = .bl k ∧ B k H') : tB te σ H B := h
theorem uNot (h : tt σ H fun c H1 => B (!c) H1) : tNot tt σ H B := h
theorem uAnd (h : tt σ H fun c H1 => if c = true then tu σ H1 B else B false H1) : tAnd tt tu σ H B := h
theorem uOr (h : tt σ H fun c H1 => if c = true then B true H1 else tu σ H1 B) : tOr tt tu σ H B := h
theorem uDrop (h : te σ H fun _ H1 => dn σ H1) : tDrop te ⟨dn, dr, db, dc⟩ σ H := h
theorem uAsg (h : te σ H fun x H1 => g x σ H1 dn) : tAsg te g ⟨dn, dr, db, dc⟩ σ H := h
theorem uRet (h : te σ H dr) : tRet te ⟨dn, dr, db, dc⟩ σ H := h
theorem uIf (h : tt σ H fun b H1 => if b = true then s1 ⟨dn, dr, db, dc⟩ σ H1 else s2 ⟨dn, dr, db, dc⟩ σ H1) : tIfS tt s1 s2 ⟨dn, dr, db, dc⟩ σ H := h
theorem uSeq (h : s1 ⟨s2 ⟨dn, dr, db, dc⟩, dr, db, dc⟩ σ H) : tSeq s1 s2 ⟨dn, dr, db, dc⟩ σ H := h
theorem uNext (h : dn σ H) : tNext ⟨dn, dr, db, dc⟩ σ H := h
theorem uFor {wi : TI} (h : wi σ H fun J H1 => ∃ W : Nat → Nat → L2.St → Hp → Prop, (∃ m, W 0 m σ H1) ∧ ∀ i m σ H, W i m σ H →
      (J.stop i H ∧ dn σ H) ∨ (J.go i H ∧ ∃ N : L2.St → Hp → Prop, (∀ σ' H', N σ' H' → ∃ m', m' < m ∧ W (i + 1) m' σ' H') ∧ ∀ x H', J.yld i H x H' → g x σ H' fun σ2 H2 => s1 ⟨N, dr, dn, N⟩ σ2 H2)) : tFor wi g s1 ⟨dn, dr, db, dc⟩ σ H := h
theorem uLc {wi : TI} {vs : List Nat} (h : wi σ H fun J H1 => LcG J g tt te vs σ H1 Q) : tLc wi g tt te vs σ H Q := h
theorem uList (h : te σ H fun x H1 => ∃ a, x = .ref a ∧ (∃ xs, SqL K H1 a xs) ∧ R (Itl K a) H1) : iList K te σ H R := h
theorem uTup (h : te σ H fun x H1 => ∃ a, x = .ref a ∧ (∃ xs, SqT K H1 a xs) ∧ R (Itt K a) H1) : iTup K te σ H R := h
end
end M
namespace M
open PySem PySem.Spec PyProof.Rows L2
/-! ### slices with bounds on the way -/
section
variable {K : PySem.W.Frag} {mg : Str → Option Value} {I I1 H I' H' : Hp} {σ σ' ρ : List (Option V)} {Γ Γ1 Θ : List Cell} {i j n : Nat} {v v0 v1 v2 v3 : V} {te tl ti : TE} {ta : TA} {tt : TT} {t u : TS} {to : TO} {dn db dc : L2.St → Hp → Prop} {dr : VK} {Q : VK} {W : WX}
variable {pn : Option V} {ω : Type} {P : ω → Prop} {X : Exn → Prop} {α β γ δ : Type}
theorem uPart {Q : Option Int → Hp → Prop} (h : te σ H fun x H1 => ∃ i, x = .int i ∧ Q (some i) H1) : tPart te σ H Q := h
theorem st_bd {i : Int} {Q : Int → Prop} (E : Env K I H σ Γ (some v :: ρ) (.im i :: Θ)) (next : Env K I H σ Γ ρ Θ → Q i) : ∃ i, v = .int i ∧ Q i := by
  obtain ⟨e, _⟩ := E.topS
  exact ⟨i, e, next E.pop⟩
theorem st_bdp {lo : Option Int} {Q : Option Int → Hp → Prop} (E : Env K I H σ Γ ρ Θ) (hl : HSl K to Γ (.ok lo)) (next : Q lo H) : to σ H Q := hl.run (fun _ => False) _ E next
theorem st_bdm {m : Res (Option Int)} {k : Option Int → Res ω} {Q : Option Int → Hp → Prop} (E : Env K I H σ Γ ρ Θ) (hl : HSl K to Γ m) (h : wp (m.bind k) P X) (next : ∀ lo, wp (k lo) P X → Q lo H) : to σ H Q := hl.run X _ E (wpb h next)
theorem st_slT {w : Tx} {lo hi : Option Int} (E : Env K I H σ Γ (some v :: ρ) (.im w :: Θ)) (next : ∀ v, Env K I H σ Γ (some v :: ρ) (.im (cutL w lo hi) :: Θ) → Q v H) : rSlS v lo hi H Q := by
  obtain ⟨e, ok⟩ := E.topS
  subst e
  have hh : HF K (tSl rSlS (tVar 0) (fun _ H Q => Q lo H) (fun _ H Q => Q hi H)) [.im w] (.ok (cutL w lo hi)) :=
    hf_cut_p (hf_var rfl) (.mk fun X Q E q => q) (.mk fun X Q E q => q)
  have q := hh.run (I := I) (H := H) (σ := [some (enc w)]) (ρ := []) (Θ := []) (fun _ => False) Q ⟨rfl, rfl, E.same, [[]], ⟨⟨rfl, _, rfl, rfl, ok⟩, trivial⟩, by simp, by simp⟩ fun ok => next _ (E.pop.pushS ok)
  obtain ⟨v', e1, q⟩ := q
  cases e1
  exact q
theorem st_slL [Rep α] {xs : List α} {lo hi : Option Int} (E : Env K I H σ Γ (some v :: ρ) (.im xs :: Θ)) (next : ∀ I' H' v, Env K I' H' σ Γ (some v :: ρ) (.im (cutL xs lo hi) :: Θ) → Q v H') : rSlL K v lo hi H Q := by
  obtain ⟨a, vs, e, ha, p⟩ := E.topR
  subst e
  exact ⟨a, vs, rfl, SqL.of (E.same _ _ ha), st_newI (Env.pop E) (cut_paired p lo hi) fun I' H' v E' => next I' H' v E'⟩
theorem st_slLO [Rep α] {xs : List α} {lo hi : Option Int} (E : Env K I H σ Γ (some v :: ρ) (.im xs :: Θ)) (next : ∀ H' v, Env K I H' σ Γ (some v :: ρ) (.own (cutL xs lo hi) :: Θ) → Q v H') : rSlL K v lo hi H Q := by
  obtain ⟨a, vs, e, ha, p⟩ := E.topR
  subst e
  exact ⟨a, vs, rfl, SqL.of (E.same _ _ ha), st_newO (Env.pop E) (cut_paired p lo hi) fun H' v E' => next H' v E'⟩
theorem ints_paired {K : PySem.W.Frag} {I : Hp} : ∀ xs : List Int, Paired (fun v x => Rep.rp K I v x) (xs.map V.int) xs
  | [] => .nil
  | _ :: xs => .cons ⟨rfl, trivial⟩ (ints_paired xs)
theorem st_slScr {xs : Scr} {lo hi : Option Int} (E : Env K I H σ Γ (some v :: ρ) (.im xs :: Θ)) (next : ∀ I' H' v, Env K I' H' σ Γ (some v :: ρ) (.im (cutL xs.l lo hi) :: Θ) → Q v H') : rSlL K v lo hi H Q := by
  obtain ⟨a, e, hq⟩ := E.topR
  subst e
  exact ⟨a, _, rfl, E.same.seq hq, st_newI (Env.pop E) (cut_paired (ints_paired xs.l) lo hi) fun I' H' v E' => next I' H' v E'⟩

/-! ### borrowing: owned lists are read by a call and stay owned -/
structure Snap where
  I : Hp
  H : Hp
  fp : List Addr
instance ownSnap : Own Snap where
  ow K fp I H v s := fp = s.fp ∧ Same s.I I ∧ ∀ b ∈ fp, H b = s.H b
  mono := fun e k ⟨e1, e2, e3⟩ => ⟨e1, e2.trans e, fun b hb => (k b hb).trans (e3 b hb)⟩
def noOwn (c : Cell) : Cell := match c with
  | .any => .any
  | @Cell.im α r a => @Cell.im α r a
  | @Cell.own _ _ _ _ => .any
theorem wk_noOwn : ∀ Γ : List Cell, Wk Γ (Γ.map noOwn)
  | [] => trivial
  | c :: Γ => ⟨by cases c <;> first | exact .inr rfl | exact .inl rfl, wk_noOwn Γ⟩
theorem Env.weakT (E : Env K I H σ Γ ρ Θ) {Θ' : List Cell} (w : Wk Θ Θ') : Env K I H σ Γ ρ Θ' := by
  have e0 : EnvL K I H (ρ.zip Θ ++ σ.zip Γ) := E.2.2.perm List.perm_append_comm
  obtain ⟨q, l⟩ := EnvL.weak E.2.1 w e0
  exact ⟨E.1, l, q.perm List.perm_append_comm⟩
theorem Ents.noOwn0 : ∀ {es : List Ent} {fs : List (List Addr)}, (∀ e ∈ es, e.2 = noOwn e.2) → Ents K I H es fs → fs.flatten = []
  | [], [], _, _ => rfl
  | [], _ :: _, _, h => h.elim
  | _ :: _, [], _, h => h.elim
  | (o, c) :: es, f :: fs, k, h => by
    have h1 := Ents.noOwn0 (fun e he => k e (List.mem_cons_of_mem _ he)) h.2
    have h2 := h.1
    have h3 := k (o, c) (by simp)
    rw [List.flatten_cons, h1]
    cases c with
    | any => rw [show f = [] from h2]; rfl
    | im a => rw [h2.1]; rfl
    | own a pn => exact absurd h3 (fun z => nomatch z)
/-- some lists are let be -/
structure LetS (I I1 : Hp) : Prop where
  same : Same I I1
  lst : ∀ a u, I1 a = some u → I a = some u ∨ ∃ vs, u = .lst vs
theorem LetS.trans {I I1 I2 : Hp} (s : LetS I I1) (t : LetS I1 I2) : LetS I I2 := ⟨s.same.trans t.same, fun a u e => by
  rcases t.lst a u e with h | h
  · exact s.lst a u h
  · exact .inr h⟩
theorem EnvL.snap {es es1 : List Ent} (h : EnvL K I H es) (h1 : EnvL K I1 H es1) (s : LetS I I1) (hn : ∀ e ∈ es1, e.2 = noOwn e.2) : ∃ S : Snap, EnvL K I1 H ((some V.non, .own S) :: es1) ∧
    (∀ {I' H' : Hp} {o : Option V} {r : List Ent}, EnvL K I' H' ((o, .own S) :: r) → EnvL K I H' es) ∧
    ∀ {I' H' : Hp} {o : Option V} {r : List Ent} {d : V} {fs : List (Str × V)}, EnvL K I' H' ((some d, .im (XD.mk fs)) :: (o, .own S) :: r) → ∃ I2, EnvL K I2 H' ((some d, .im (XD.mk fs)) :: es) := by
  obtain ⟨sm, fs, e1, e2, e3⟩ := h
  obtain ⟨sm1, fs1, d1, d2, d3⟩ := h1
  have f0 := Ents.noOwn0 hn d1
  classical
  refine ⟨⟨I1, H, fs.flatten.filter fun a => decide (I1 a = none)⟩, ⟨sm1, _ :: fs1, ⟨⟨V.non, rfl, (fun _ z => nomatch z), rfl, Same.refl _, fun _ _ => rfl⟩, d1⟩, ?_, ?_⟩, fun {I' H' o r} z => ?_, fun {I' H' o r d xs} z => ?_⟩
  · rw [List.flatten_cons, f0, List.append_nil]
    exact e2.filter _
  · intro a ha
    rw [List.flatten_cons, f0, List.append_nil] at ha
    have ha := List.mem_filter.mp ha
    exact ⟨by simpa using ha.2, (e3 a ha.1).2⟩
  · obtain ⟨t1, gs, t2, t3, t4⟩ := z
    cases gs with
    | nil => exact t2.elim
    | cons g gs =>
      obtain ⟨⟨w, _, _, q1, q2, q3⟩, _⟩ := t2
      have q1 : g = _ := q1
      have q2 : Same I1 I' := q2
      have hk : ∀ a ∈ fs.flatten, H' a = H a := fun a ha => by
        cases e : I1 a with
        | none => exact q3 a (by rw [q1]; exact List.mem_filter.mpr ⟨ha, by simpa using e⟩)
        | some u => rw [t1 a u (q2 a u e), sm1 a u e]
      refine ⟨fun a u e => t1 a u (q2 a u (s.same a u e)), fs, Ents.mono (Same.refl _) hk e1, e2, fun a ha => ⟨(e3 a ha).1, ?_⟩⟩
      rw [hk a ha]
      exact (e3 a ha).2
  · obtain ⟨t1, gs, t2, t3, t4⟩ := z
    cases gs with
    | nil => exact t2.elim
    | cons g0 gs =>
      cases gs with
      | nil => exact t2.2.elim
      | cons g gs =>
        obtain ⟨⟨hg0, v0, ev0, hx0⟩, ⟨w, _, _, q1, q2, q3⟩, _⟩ := t2
        have q1 : g = _ := q1
        have q2 : Same I1 I' := q2
        have ev0 : some d = some v0 := ev0
        cases ev0
        have hk : ∀ a ∈ fs.flatten, H' a = H a := fun a ha => by
          cases e : I1 a with
          | none => exact q3 a (by rw [q1]; exact List.mem_filter.mpr ⟨ha, by simpa using e⟩)
          | some u => rw [t1 a u (q2 a u e), sm1 a u e]
        have hx0 : XDr I' d xs := hx0
        rcases hx0 with hx0 | ⟨d', ed', hxd⟩
        · have b : EnvL K I H' es := ⟨fun a u e => t1 a u (q2 a u (s.same a u e)), fs, Ents.mono (Same.refl _) hk e1, e2, fun a ha => ⟨(e3 a ha).1, by rw [hk a ha]; exact (e3 a ha).2⟩⟩
          exact ⟨I, b.im (a := XD.mk xs) (.inl hx0)⟩
        subst ed'
        have hd' : H' d' = some (.xd xs) := t1 _ _ hxd
        have sI : Same I (upd I d' (.xd xs)) := fun a u e => by
          by_cases hd : a = d'
          · subst hd
            have z1 := t1 a u (q2 a u (s.same a u e))
            rw [hd'] at z1
            rw [upd_same, ← z1]
          · rw [upd_ne hd]; exact e
        have nd : ∀ a ∈ fs.flatten, a ≠ d' := fun a ha hd => by
          subst hd
          cases e : I1 a with
          | none =>
            have : I' a = none := (t4 a (by
              rw [List.flatten_cons, List.flatten_cons]
              refine List.mem_append_right _ (List.mem_append_left _ ?_)
              rw [q1]; exact List.mem_filter.mpr ⟨ha, by simpa using e⟩)).1
            rw [hxd] at this
            cases this
          | some u =>
            rcases s.lst a u e with h | ⟨vs, h⟩
            · rw [(e3 a ha).1] at h; cases h
            · have z1 := t1 a u (q2 a u e)
              rw [hd', h] at z1
              cases z1
        refine ⟨upd I d' (.xd xs), fun a u e => ?_, [] :: fs, ⟨⟨rfl, _, rfl, .inr ⟨d', rfl, upd_same⟩⟩, Ents.mono sI hk e1⟩, ?_, fun a ha => ?_⟩
        · by_cases hd : a = d'
          · subst hd
            rw [upd_same] at e
            rw [← e]; exact hd'
          · rw [upd_ne hd] at e
            exact t1 a u (q2 a u (s.same a u e))
        · exact e2
        · have ha : a ∈ fs.flatten := ha
          refine ⟨by rw [upd_ne (nd a ha)]; exact (e3 a ha).1, ?_⟩
          rw [hk a ha]
          exact (e3 a ha).2
theorem noOwn_idem (c : Cell) : noOwn c = noOwn (noOwn c) := by cases c <;> rfl
theorem zip_noOwn : ∀ {o : List (Option V)} {Γ : List Cell}, ∀ e ∈ o.zip (Γ.map noOwn), e.2 = noOwn e.2 := fun {o Γ} e he => by
  obtain ⟨o1, c1⟩ := e
  have := (List.of_mem_zip he).2
  obtain ⟨c, _, e2⟩ := List.mem_map.mp this
  rw [← e2]
  exact noOwn_idem c
/-- before such a call; E1: the same where what the call reads is let be -/
theorem Env.borrow (E : Env K I H σ Γ ρ Θ) (E1 : Env K I1 H σ Γ1 ρ Θ) (s : LetS I I1) : ∃ S : Snap, Env K I1 H σ (Γ1.map noOwn) (some V.non :: ρ) (.own S :: Θ.map noOwn) ∧
    (∀ {β : Type} [Sca β] {b : β} {I' H' : Hp} {v : V} {σ2 : List (Option V)} {Γ2 Θ2 : List Cell} {o : Option V} {ρ2 : List (Option V)}, Env K I' H' σ2 Γ2 (some v :: o :: ρ2) (.im b :: .own S :: Θ2) → Env K I H' σ Γ (some v :: ρ) (.im b :: Θ)) ∧
    (∀ {I' H' : Hp} {σ2 : List (Option V)} {Γ2 Θ2 : List Cell} {o : Option V} {ρ2 : List (Option V)} {d : V} {fs : List (Str × V)}, Env K I' H' σ2 Γ2 (some d :: o :: ρ2) (.im (XD.mk fs) :: .own S :: Θ2) → ∃ I2, Env K I2 H' σ Γ (some d :: ρ) (.im (XD.mk fs) :: Θ)) := by
  have E2 := (E1.weak (wk_noOwn Γ1)).weakT (wk_noOwn Θ)
  obtain ⟨S, a, b, b2⟩ := E.2.2.snap E2.2.2 s fun e he => by
    rcases List.mem_append.mp he with he | he
    · exact zip_noOwn e he
    · exact zip_noOwn e he
  refine ⟨S, E2.toStack a, fun {β _ b' I' H' v σ2 Γ2 Θ2 o ρ2} Z => ?_, fun {I' H' σ2 Γ2 Θ2 o ρ2 d fs} Z => ?_⟩
  · have z := b Z.pop.unstack
    have r := Z.topS
    have E3 : Env K I H' σ Γ ρ Θ := ⟨E.1, E.2.1, z⟩
    rw [r.1]
    exact E3.pushS r.2
  · have z0 : EnvL K I' H' ((some d, .im (XD.mk fs)) :: (o, .own S) :: (σ2.zip Γ2 ++ ρ2.zip Θ2)) := by
      refine Z.2.2.perm ?_
      show (σ2.zip Γ2 ++ ((some d, Cell.im (XD.mk fs)) :: (o, Cell.own S) :: ρ2.zip Θ2)).Perm _
      exact List.perm_middle.trans (List.Perm.cons _ List.perm_middle)
    obtain ⟨I2, z⟩ := b2 z0
    exact ⟨I2, E.1, by simp [E.2.1], z.perm List.perm_middle.symm⟩
/-- a slot is let be, what was is kept in mind -/
theorem Env.let [Rep α] {xs : List α} (E : Env K I H σ Γ ρ Θ) (hΓ : Γ[i]? = some (.own xs pn)) : ∃ I1, LetS I I1 ∧ Env K I1 H σ (Γ.set i (.im xs)) ρ Θ := by
  obtain ⟨p, vs, _, hp, pI, _, _, fz⟩ := E.ownAt hΓ
  refine ⟨_, ⟨fun a u e => ?_, fun a u e => ?_⟩, fz⟩
  · rw [upd_ne (ne_of_none e pI)]
    exact e
  · by_cases h : a = p
    · subst h
      rw [upd_same] at e
      exact .inr ⟨vs, (Option.some.inj e).symm⟩
    · rw [upd_ne h] at e
      exact .inl e
end
end M
namespace M
open PySem PySem.Spec PyProof.Rows L2
/-! ### a law's source of draws: [cells, seed, n] -/
structure Src where
  cells : List Int
  seed : Int
  n : Int
/-- its root alone -/
structure SrcH where
  q : Addr
  seed : Int
  n : Int
instance ownSrcH : Own SrcH where
  ow K fp I H v s := ∃ p, v = .ref p ∧ fp = [p] ∧ H p = some (.lst [.ref s.q, .int s.seed, .int s.n])
  mono := fun e k ⟨p, e1, e2, h⟩ => ⟨p, e1, e2, by subst e2; rw [k p (by simp)]; exact h⟩
instance ownSrc : Own Src where
  ow K fp I H v s := ∃ p q, v = .ref p ∧ fp = [p, q] ∧ H p = some (.lst [.ref q, .int s.seed, .int s.n]) ∧ H q = some (.lst (s.cells.map V.int))
  mono := fun e k ⟨p, q, e1, e2, h1, h2⟩ => ⟨p, q, e1, e2, by subst e2; rw [k p (by simp)]; exact h1, by subst e2; rw [k q (by simp)]; exact h2⟩
theorem ints_of {K : PySem.W.Frag} {I : Hp} : ∀ {vs : List V} {xs : List Int}, Paired (fun v x => Rep.rp K I v x) vs xs → vs = xs.map V.int
  | _, _, .nil => rfl
  | _, _, .cons r t => by
    have r' : _ = V.int _ ∧ True := r
    rw [r'.1, ints_of t]
    rfl
section
variable {K : PySem.W.Frag} {mg : Str → Option Value} {I I1 H I' H' : Hp} {σ σ' ρ : List (Option V)} {Γ Γ' Γ1 Θ : List Cell} {es : List Ent} {i j n : Nat} {v v0 v1 v2 v3 : V} {te tl ti : TE} {ta : TA} {tt : TT} {t u : TS} {to : TO} {dn db dc : L2.St → Hp → Prop} {dr : VK} {Q : VK} {W : WX}
variable {pn : Option V} {o : Option V} {ω : Type} {P : ω → Prop} {X : Exn → Prop} {α β γ δ : Type}
/-- taken apart -/
theorem EnvL.srcOpen {s : Src} (h : EnvL K I H ((o, .own s pn) :: es)) : ∃ q, EnvL K I H ((o, .own (⟨q, s.seed, s.n⟩ : SrcH) pn) :: (some (.ref q), .own s.cells (some (.ref q))) :: es) ∧ ∃ p, o = some (.ref p) ∧ H p = some (.lst [.ref q, .int s.seed, .int s.n]) := by
  obtain ⟨sm, fs, h1, h2, h3⟩ := h
  cases fs with
  | nil => exact h1.elim
  | cons f fs =>
    obtain ⟨⟨v, e1, e0, p, q, e2, e3, hp, hq⟩, h1⟩ := h1
    subst e3
    refine ⟨q, ⟨sm, [p] :: [q] :: fs, ⟨⟨v, e1, e0, p, e2, rfl, hp⟩, ⟨_, rfl, (fun w e => Option.some.inj e), q, _, rfl, rfl, hq, ints_paired _⟩, h1⟩, ?_, ?_⟩, p, ?_, hp⟩
    · exact h2
    · exact h3
    · have e1 : o = some v := e1
      rw [e1, e2]
/-- put together -/
theorem EnvL.srcClose {s : SrcH} {xs : List Int} {o2 : Option V} (h : EnvL K I H ((o, .own s pn) :: (o2, .own xs (some (.ref s.q))) :: es)) : EnvL K I H ((o, .own (⟨xs, s.seed, s.n⟩ : Src) pn) :: (o2, .any) :: es) := by
  obtain ⟨sm, fs, h1, h2, h3⟩ := h
  cases fs with
  | nil => exact h1.elim
  | cons f fs =>
    cases fs with
    | nil => exact h1.2.elim
    | cons g fs =>
      obtain ⟨⟨v, e1, e0, p, e2, e3, hp⟩, ⟨v2, d1, d0, q, vs, d2, d3, hq, r⟩, h1⟩ := h1
      subst e3 d3
      have hv : v2 = .ref s.q := d0 _ rfl
      have hqq : q = s.q := V.ref.inj (d2.symm.trans hv)
      subst hqq
      refine ⟨sm, [p, s.q] :: [] :: fs, ⟨⟨v, e1, e0, p, s.q, e2, rfl, hp, by rw [hq, ints_of r]⟩, rfl, h1⟩, ?_, ?_⟩
      · exact h2
      · exact h3
/-- two slots, alone -/
theorem Env.pick0 {c : Cell} (E : Env K I H σ (c :: Γ) ρ Θ) : ∃ o σ1, σ = o :: σ1 ∧ EnvL K I H ((o, c) :: (σ1.zip Γ ++ ρ.zip Θ)) ∧ σ1.length = Γ.length := by
  cases σ with
  | nil => have := E.1; simp at this
  | cons o σ => exact ⟨o, σ, rfl, E.2.2, by have := E.1; simpa using this⟩
theorem zip_at' {σ : List (Option V)} (l : σ.length = Γ.length) {c : Cell} (h : Γ[i]? = some c) : ∃ o, σ[i]? = some o := by
  have hl : i < Γ.length := (List.getElem?_eq_some_iff.mp h).1
  exact ⟨σ[i]'(by rw [l]; exact hl), List.getElem?_eq_getElem _⟩
/-- great = source[0] -/
theorem st_srcOpen {s : Src} (E : Env K I H σ (.own s pn :: Γ) ρ Θ) (hi : i < Γ.length)
    (next : ∀ q σ', Env K I H σ' (.own (⟨q, s.seed, s.n⟩ : SrcH) pn :: Γ.set i (.own s.cells (some (.ref q)))) ρ Θ → dn σ' H) : tAsg (tOp (rIxL K) (tVar 0) (tC (.int 0))) (gName (i + 1)) ⟨dn, dr, db, dc⟩ σ H := by
  obtain ⟨o, σ1, rfl, e, l⟩ := E.pick0
  obtain ⟨q, e2, p, rfl, hp⟩ := e.srcOpen
  refine ⟨_, rfl, p, _, 0, .ref q, rfl, rfl, SqL.of hp, rfl, next q _ ?_⟩
  have E2 : Env K I H (some (.ref p) :: σ1) (.own (⟨q, s.seed, s.n⟩ : SrcH) pn :: Γ) (some (.ref q) :: ρ) (.own s.cells (some (.ref q)) :: Θ) :=
    ⟨E.1, by simp [E.2.1], e2.perm (List.Perm.cons _ List.perm_middle.symm)⟩
  exact E2.store (i := i + 1) (by simpa using hi) rfl
theorem hf_src1 {s : SrcH} (hΓ : Γ[0]? = some (.own s pn)) : HF K (tOp (rIxL K) (tVar 0) (tC (.int 1))) Γ (.ok s.seed) := .mk fun X Q E q => by
  obtain ⟨o, r, ho, e, _⟩ := E.pick hΓ
  obtain ⟨_, fs, h1, _⟩ := e
  cases fs with
  | nil => exact h1.elim
  | cons f fs =>
    obtain ⟨v, e1, _, p, e2, _, hp⟩ := h1.1
    have e1 : o = some v := e1
    subst e1 e2
    exact ⟨_, ho, p, _, 1, _, rfl, rfl, SqL.of hp, rfl, q trivial⟩
theorem hf_src2 {s : SrcH} (hΓ : Γ[0]? = some (.own s pn)) : HF K (tOp (rIxL K) (tVar 0) (tC (.int 2))) Γ (.ok s.n) := .mk fun X Q E q => by
  obtain ⟨o, r, ho, e, _⟩ := E.pick hΓ
  obtain ⟨_, fs, h1, _⟩ := e
  cases fs with
  | nil => exact h1.elim
  | cons f fs =>
    obtain ⟨v, e1, _, p, e2, _, hp⟩ := h1.1
    have e1 : o = some v := e1
    subst e1 e2
    exact ⟨_, ho, p, _, 2, _, rfl, rfl, SqL.of hp, rfl, q trivial⟩
/-- source[2] = e -/
theorem EnvL.srcSet {s : SrcH} {p : Addr} {y : Int} (h : EnvL K I H ((some (.ref p), .own s pn) :: es)) : EnvL K I (upd H p (.lst [.ref s.q, .int s.seed, .int y])) ((some (.ref p), .own (⟨s.q, s.seed, y⟩ : SrcH) pn) :: es) := by
  obtain ⟨sm, fs, h1, h2, h3⟩ := h
  cases fs with
  | nil => exact h1.elim
  | cons f fs =>
    obtain ⟨⟨v, e1, e0, p', e2, e3, hp⟩, h1⟩ := h1
    cases e1
    cases e2
    subst e3
    rw [List.flatten_cons] at h2 h3
    have hn := List.nodup_append.mp h2
    have npf : ∀ a ∈ fs.flatten, a ≠ p := fun a ha q => hn.2.2 p (by simp) a ha q.symm
    have pI := (h3 p (by simp)).1
    refine ⟨fun a u e => ?_, [p] :: fs, ⟨⟨_, rfl, e0, p, rfl, rfl, upd_same⟩, Ents.mono (Same.refl _) (fun a ha => upd_ne (npf a ha)) h1⟩, by rw [List.flatten_cons]; exact h2, fun a ha => ?_⟩
    · rw [upd_ne (ne_of_none e pI)]
      exact sm a u e
    · rw [List.flatten_cons] at ha
      refine ⟨(h3 a ha).1, ?_⟩
      by_cases hap : a = p
      · rw [hap, upd_same]; exact fun z => nomatch z
      · rw [upd_ne hap]; exact (h3 a ha).2
theorem st_srcSet {s : SrcH} {y : Int} {dn : L2.St → Hp → Prop} (E : Env K I H σ (.own s pn :: Γ) (some v :: ρ) (.im y :: Θ))
    (next : ∀ H', Env K I H' σ (.own (⟨s.q, s.seed, y⟩ : SrcH) pn :: Γ) ρ Θ → dn σ H') : gSub (tVar 0) (tC (.int 2)) rSetL v σ H dn := by
  obtain ⟨ev, _⟩ := E.topS
  subst ev
  obtain ⟨o, σ1, rfl, e, l⟩ := (Env.pop E).pick0
  obtain ⟨_, fs, h1, _⟩ := id e
  cases fs with
  | nil => exact h1.elim
  | cons f fs =>
    obtain ⟨w, e1, _, p, e2, _, hp⟩ := h1.1
    have e1 : o = some w := e1
    subst e1 e2
    exact ⟨_, rfl, p, _, 2, 2, rfl, rfl, hp, rfl, next _ ⟨E.1, E.len, e.srcSet⟩⟩
/-- at the end -/
theorem Env.srcClose {s : SrcH} {xs : List Int} {c1 : Cell} (E : Env K I H σ (.own s pn :: c1 :: .own xs (some (.ref s.q)) :: Γ) ρ Θ) : Env K I H σ (.own (⟨xs, s.seed, s.n⟩ : Src) pn :: c1 :: .any :: Γ) ρ Θ := by
  obtain ⟨o, σ1, rfl, e, l⟩ := E.pick0
  cases σ1 with
  | nil => simp at l
  | cons o1 σ1 =>
    cases σ1 with
    | nil => simp at l
    | cons o2 σ1 =>
      refine ⟨E.1, E.2.1, ?_⟩
      have p1 : ((o, Cell.own s pn) :: ((o1 :: o2 :: σ1).zip (c1 :: .own xs (some (.ref s.q)) :: Γ) ++ ρ.zip Θ)).Perm ((o, Cell.own s pn) :: (o2, .own xs (some (.ref s.q))) :: (o1, c1) :: (σ1.zip Γ ++ ρ.zip Θ)) := (List.Perm.swap _ _ _).cons _
      have z := (e.perm p1).srcClose
      exact z.perm ((List.Perm.swap _ _ _).cons _)
/-- [cells, seed, n] -/
theorem st_newSrc {a b : Int} {xs : List Int} (E : Env K I H σ Γ (some v3 :: some v2 :: some v1 :: ρ) (.im b :: .im a :: .own xs pn :: Θ)) (next : ∀ H' v, Env K I H' σ Γ (some v :: ρ) (.own (⟨xs, a, b⟩ : Src) :: Θ) → Q v H') :
    LsG [v1, v2, v3] H Q := by
  refine ⟨line_of (by decide : (3 : Nat) ≤ line), fun p hp => next _ _ ?_⟩
  obtain ⟨e3, _⟩ := E.topS
  obtain ⟨e2, _⟩ := E.pop.topS
  subst e3 e2
  have e := E.pop.pop.unstack
  have hI := e.none_of hp
  obtain ⟨sm, fs, h1, h2, h3⟩ := e
  cases fs with
  | nil => exact h1.elim
  | cons f fs =>
    obtain ⟨⟨w, d1, _, q, vs, d2, d3, hq, r⟩, h1⟩ := h1
    have d1 : v1 = w := Option.some.inj d1
    subst d1 d2 d3
    have hn : ∀ a ∈ ([q] :: fs).flatten, a ≠ p := fun a ha z => (h3 a ha).2 (by rw [z]; exact hp)
    have hqp : q ≠ p := hn q (by simp)
    refine ⟨E.1, by have := E.pop.pop.len; simpa using this, ?_⟩
    have z : EnvL K I (upd H p (.lst [.ref q, enc a, enc b])) ((some (.ref p), .own (⟨xs, a, b⟩ : Src)) :: (σ.zip Γ ++ ρ.zip Θ)) := by
      refine ⟨fun a u e => ?_, [p, q] :: fs, ⟨⟨_, rfl, (fun _ z => nomatch z), p, q, rfl, rfl, upd_same, by rw [upd_ne hqp, hq, ints_of r]⟩, Ents.mono (Same.refl _) (fun a ha => upd_ne (hn a (by simp at ha ⊢; exact .inr ha))) h1⟩, ?_, fun a ha => ?_⟩
      · rw [upd_ne (ne_of_none e hI)]
        exact sm a u e
      · show (p :: ([q] :: fs).flatten).Nodup
        exact List.nodup_cons.mpr ⟨fun z => hn p z rfl, h2⟩
      · have ha : a ∈ p :: ([q] :: fs).flatten := ha
        rcases List.mem_cons.mp ha with ha | ha
        · subst ha
          exact ⟨hI, by rw [upd_same]; exact fun z => nomatch z⟩
        · exact ⟨(h3 a ha).1, by rw [upd_ne (hn a ha)]; exact (h3 a ha).2⟩
    exact z.perm List.perm_middle.symm
/-! pop -/
theorem st_popAt [Rep α] {xs : List α} {k : α × List α → Res ω} {l : Addr} {m : Int} (E : Env K I H σ Γ (some v :: ρ) (.im m :: Θ)) (hl : σ[i]? = some (some (.ref l))) (hΓ : Γ[i]? = some (.own xs pn)) (h : wp ((lPopAt xs m).bind k) P X)
    (next : ∀ y H' w, Env K I H' σ (Γ.set i (.own y.2 pn)) (some w :: ρ) (.im y.1 :: Θ) → wp (k y) P X → Q w H') : rPopAt (.ref l) [v] H Q := by
  obtain ⟨ev, _⟩ := E.topS
  subst ev
  obtain ⟨p, vs, hs, hp, _, q, ch, _⟩ := (Env.pop E).ownAt hΓ
  have e : l = p := by
    rw [hl] at hs
    exact V.ref.inj (Option.some.inj (Option.some.inj hs))
  subst e
  have hlen : vs.length = xs.length := Paired.length q
  unfold lPopAt at h
  rw [clo_eq] at h
  split at h
  · rename_i hb
    cases e2 : seqIndex? m xs.length with
    | none => rw [e2] at h; exact h.elim
    | some n =>
      rw [e2] at h
      dsimp only at h
      cases e3 : xs[n]? with
      | none => rw [e3] at h; exact h.elim
      | some y =>
        rw [e3] at h
        have hn := (List.getElem?_eq_some_iff.mp e3).1
        have hv : vs[n]? = some (vs[n]'(by omega)) := List.getElem?_eq_getElem (by omega)
        refine ⟨l, vs, m, n, _, rfl, rfl, hp, hb.1, hb.2, by rw [hlen]; exact e2, hv, next (y, xs.eraseIdx n) _ _ ?_ h⟩
        exact (ch (Grow.refl E.same) _ _ (paired_erase (k := n) q)).push (paired_at q hv e3)
  · exact h.elim
theorem st_pop [Rep α] {xs : List α} {k : α × List α → Res ω} {l : Addr} (E : Env K I H σ Γ ρ Θ) (hl : σ[i]? = some (some (.ref l))) (hΓ : Γ[i]? = some (.own xs pn)) (h : wp ((lPop xs).bind k) P X)
    (next : ∀ y H' w, Env K I H' σ (Γ.set i (.own y.2 pn)) (some w :: ρ) (.im y.1 :: Θ) → wp (k y) P X → Q w H') : rPop (.ref l) [] H Q := by
  obtain ⟨p, vs, hs, hp, _, q, ch, _⟩ := E.ownAt hΓ
  have e : l = p := by
    rw [hl] at hs
    exact V.ref.inj (Option.some.inj (Option.some.inj hs))
  subst e
  have hlen : vs.length = xs.length := Paired.length q
  unfold lPop at h
  cases e3 : xs[xs.length - 1]? with
  | none => rw [e3] at h; exact h.elim
  | some y =>
    rw [e3] at h
    have hn := (List.getElem?_eq_some_iff.mp e3).1
    obtain ⟨w, hv⟩ : ∃ w, vs[xs.length - 1]? = some w := ⟨_, List.getElem?_eq_getElem (by omega)⟩
    refine ⟨l, vs, w, rfl, rfl, hp, by rw [hlen]; exact hv, next (y, xs.dropLast) _ _ ?_ h⟩
    exact (ch (Grow.refl E.same) _ _ (paired_dropLast q)).push (paired_at q hv e3)
end
end M
namespace M
open PySem PySem.Spec PyProof.Rows L2
/-! ### defs that raise, exceptions without a context -/
theorem passN {X : Cx} : Passes (L2N.CX X.prog X.w) X E0 := fun _ _ _ _ _ _ _ h => by
  obtain ⟨_, _, _, _, _, _, _, _, _, _, _, _, z⟩ := h
  exact z.elim
theorem takesN0 {X : Cx} : L2N.Takes X (fun _ _ _ _ => False) := fun _ _ x => by
  obtain ⟨_, _, _, _, _, _, _, _, _, _, _, _, _, _, _, _, z⟩ := x
  exact z.elim
section
variable {P : Program} {w : World} {K : PySem.W.Frag} {mg : Str → Option Value} {base : Heap}
theorem okN {x qual : Str} {st : Stmt} {f : Addr} {fd : FuncData} {N ps : List Str} {k : Nat} {sp : Sp} (F : Fun K x qual st f fd) (S : FnScope N ps (defScope st)) (len : ∀ vs H Q E, sp vs H Q E → vs.length = ps.length)
    (hbody : ∀ (cdv : Value) (A : Around) (outer : List PySem.Env) (s : Shared) (H : Hp) (vs : List V) (Q : VK) (E : XK), Room k (A.deeper (envOfC qual (defScope st) s.heap.objs.size f cdv)) → sp vs H Q E →
      ∃ t, PSs (cxOf (L2N.CX P w) P w K mg base N qual (defScope st) f cdv A outer s H E) (defBody st) t ∧ t { nx := fun _ H' => Q .non H', rt := Q } (L2.start N vs) H) : FnOk P w K mg base (L2N.CX P w) (k + 1) f fd ps sp := by
  obtain ⟨oc, od, kV, doc, pm, an, cdv, ct, osl, rfl, lk, hcd⟩ := F.ex
  exact fn_of lk hcd S len fun A outer s H vs Q E hr hsp => hbody cdv A outer s H vs Q E hr hsp
theorem okH {x qual : Str} {st : Stmt} {f : Addr} {fd : FuncData} {N ps : List Str} {k : Nat} {sp : Sp} (F : Fun K x qual st f fd) (S : FnScope N ps (defScope st)) (len : ∀ vs H Q E, sp vs H Q E → vs.length = ps.length)
    (hbody : ∀ (cdv : Value) (A : Around) (outer : List PySem.Env) (s : Shared) (H : Hp) (vs : List V) (Q : VK) (E : XK) (p : Addr × Obj), L2H.Hot1 A p → L2H.RoomH k (A.deeper (envOfC qual (defScope st) s.heap.objs.size f cdv)) → sp vs H Q E →
      ∃ t, PSs (L2H.cxH (L2N.CX P w) P w K mg base N qual (defScope st) f cdv A outer s H E p) (defBody st) t ∧ t { nx := fun _ H' => Q .non H', rt := Q } (L2.start N vs) H) : L2H.FnH P w K mg base (L2N.CX P w) (k + 1) f fd ps sp := by
  obtain ⟨oc, od, kV, doc, pm, an, cdv, ct, osl, rfl, lk, hcd⟩ := F.ex
  exact L2H.fn_ofH lk hcd S len fun A outer s H vs Q E p hot hr hsp => hbody cdv A outer s H vs Q E p hot hr hsp
end
/-- C(e, ..), an own exception with __init__, made where none is handled -/
theorem pmk_oexN {X : Cx} {CX : CXT} {x : Str} {e : Expr} {es : List Expr} {ta : TA} {p pos : Pos} {C fI : Addr} {k : Nat} {fd : FuncData} {ps : List Str} {sp : Sp} (T : OexC X.K C) (iC : PySem.W.findIn X.K (.ref C) "__init__" = some (some (.ref fI)))
    (tI : PySem.W.typeIn X.K (.ref fI) = some (.type "function")) (F1 : FnOk X.prog X.w X.K X.mg X.base CX k fI fd ps sp) (hr : Room (k + 1) X.A) (hb : Binds X.K fd ps []) (hx : Passes CX X (fun _ _ _ => False)) (hg : Gl X x) (hm : X.mg x = some (.ref C)) (ha : PA X (e :: es) ta)
    (hdb : (x == ("__debug__" : Str)) = false := by decide) (he : starEach (e :: es) X.env = (false, eval e X.env) :: starEach es X.env := by rfl) (hpl : (backTo pos (starEach es X.env)).any (·.1) = false := by rfl) :
    L2N.PMk X (.Call (.Name x p) (e :: es) [] pos) (tMkO C sp [] ta) := by
  intro pins s σ H Q I h
  obtain ⟨nm, q, N, bs, bm, sn, sub, ab, col, dd, k0, k1, k2, k3, k5, hC, hbm⟩ := T.cls
  refine wpAny_Call_Name_kw (ld_glob I hg hm ?_ hdb)
  refine PySem.W.callWith_K (h₀ := X.base) I.ok.mod.kin T.kC (thn (ha.run pos pins s σ H _ I h) fun us s1 ⟨vs, H1, I1, r1, hz, q1⟩ => ⟨I1.kIn, ?_⟩) he hpl
  show wpAny _ _ (call (.ref C) us) _ _ _
  obtain ⟨hp, g, dr, tk, os⟩ := s1
  have hsz : hp.objs.size ≤ hp.objs.size + 1 := Nat.le_succ _
  have hn : H1 (hp.objs.size + 1) = none := I1.hok.fresh hsz
  have hq := q1 (hp.objs.size + 1) hn
  rw [List.append_nil] at hq
  have kk : ∀ b o, hp.get? b = some o → ((hp.push (PySem.W.kdv_tup us)).push (PySem.HandSPX.excO C hp.objs.size)).get? b = some o := fun b o e => Heap.get?_push_of_some _ (Heap.get?_push_of_some _ e)
  have hget : ((hp.push (PySem.W.kdv_tup us)).push (PySem.HandSPX.excO C hp.objs.size)).get? (hp.objs.size + 1) = some (PySem.HandSPX.excO C hp.objs.size) := by heap_get
  have I2 : Inv X pins σ (upd H1 (hp.objs.size + 1) (exo (hp.objs.size + 1) C none)) ⟨(hp.push (PySem.W.kdv_tup us)).push (PySem.HandSPX.excO C hp.objs.size), g, dr, tk, os⟩ :=
    I1.laid (t' := tk) (a := hp.objs.size + 1) (o := exo (hp.objs.size + 1) C none) (h' := (hp.push (PySem.W.kdv_tup us)).push (PySem.HandSPX.excO C hp.objs.size)) kk hsz (exo_ok hget)
  have r2 : Vals (V.ref (hp.objs.size + 1) :: vs) (Value.ref (hp.objs.size + 1) :: us) := .cons rfl r1
  have hl : (Value.ref (hp.objs.size + 1) :: us ++ []).length = ps.length := by
    have e := r2.length
    rw [F1.len _ _ _ _ hq] at e
    rw [List.append_nil]
    exact e.symm
  have hus : us.length ≤ sizeLine := by
    rw [← Paired.length r1, sizeLine_eq]
    omega
  have b2 := hb _ (Value.ref (hp.objs.size + 1) :: us) I2.kIn hl
  rw [List.append_nil] at b2
  refine wpAny_call (PySem.HandSPX.call_own F.excBase_ValueError (fun Y => PySem.HandSPX.refsVE_contains Y bm hbm) (I1.kIn _ _ hC) (PySem.W.looks_findIn I1.kIn iC) (fun self => PySem.W.bind_fn I1.kIn self tI) hus
    (codeAny_mono (F1.run _ X.stack _ _ ⟨Value.ref (hp.objs.size + 1) :: us, []⟩ (Value.ref (hp.objs.size + 1) :: us) _ _ (fun _ _ _ => False) (hr.make C us []) (I2.env0.make C us []) b2 r2 hq) fun r s' hq' => ?_))
  cases r with
  | error er => exact hx pins σ _ _ er s' I2 hq'
  | ok fl =>
    cases fl with
    | ret u =>
      obtain ⟨v, H2, os2, bare2, un2, hok2, rv, ev, d, fs, ea, ed, hd1, q2⟩ := hq'
      subst ev
      obtain ⟨h2, g2, d2, t2, os'⟩ := s'
      obtain ⟨t0, G, J, kG, ge, hoe, na⟩ := mk_end0 (d2 := d2) (t2 := t2) I1 hsz kk un2 hok2 os2 bare2 ea ed hd1
      refine ⟨rv, hp.objs.size + 1, _, _, ⟨G, g2, d2, t2, os'⟩, _, .ref C, some d, rfl, J, kG, ge, hoe, ⟨rfl, rfl, fun vs hv => ?_⟩, rfl, rfl, na, rfl, bare2, raises_own T.exC T.tyC, q2⟩
      cases hv
      rfl
    | next => exact False.elim hq'
    | brk => exact False.elim hq'
    | cont => exact False.elim hq'
/-- what the top says of such a class -/
structure ExcN (P : Program) (w : World) (K : PySem.W.Frag) (mg : Str → Option Value) (base : Heap) (x f : Str) (C fI : Addr) (fd : FuncData) : Prop where
  gC : mg x = some (.ref C)
  T : OexC K C
  iC : PySem.W.findIn K (.ref C) "__init__" = some (some (.ref fI))
  tI : PySem.W.typeIn K (.ref fI) = some (.type "function")
  ini : FnOk P w K mg base (L2N.CX P w) 1 fI fd ["self", f] (spIni C f)
  bI : Binds K fd ["self", f] []
  ec : ExcC K C
  xf : XfC K C
  no : PySem.W.findIn K (.ref C) f = some none
end M
namespace PySem.W
open PySem PySem.Spec PySem.Calls PyProof.Rows
section
variable {prog : Program} {w : World} {A : Around} {E : Value → Shared → Prop} {s : Shared} {K : Frag} {x D : Addr} {ox : Obj} {od : Option Obj}
/-- a caught error's class, whatever fields it bears -/
theorem kit_excM (C : L2.ExcC K D) : KitX K (.ref x) (.ref D) (fun h => InstAt h x ox D od) where
  ty := fun _ _ _ I => I.type
  it := fun M h X I => by
    obtain ⟨cdD, hcD, _⟩ := any_some C.hd
    unfold clsIn at hcD
    split at hcD
    · rename_i c' d' cd' sl' ho
      intro A' Q' E' s' k q
      unfold isType loadHead
      exact wpAny_bind (wpAny_loadPart (k _ _ (X _ _ ho)) (wpAny_pure q))
    · cases hcD
  ne := fun h tp dd its n sl X htp => (handS_kitx_exc (x := x) (ox := ox) C.hg C.hk C.hs C.hd C.ha C.hn C.ht C.hm).ne h tp dd its n sl X htp
  ca := fun {prog w A E Q s} X I h => by
    have hf : findObj K D od "__class__" = some (.bind (.builtin "getset_descriptor.__get__") (.builtin "object.__class__")) := by
      obtain ⟨cd, hc, _⟩ := any_some C.hd
      unfold findObj
      rw [hc, Option.bind_some, C.ha, Option.bind_some]
      simp [C.hn, C.ht]
    obtain ⟨hp, g, d, t, os⟩ := s
    have L0 := I.type (M := model prog w)
    have L1 := looks_findIn (M := model prog w) X C.hg
    have L2 := looks_findIn (M := model prog w) X C.hk
    have L3 := looks_find (M := model prog w) X I hf
    have sub : Looks (model prog w) hp (isInstance (.ref x) (.type "BaseException")) true := L0.andThen (looks_subIn X C.hs)
    have hx2 : (Value.builtin "BaseException.__getattribute__" == Value.builtin "object.__getattribute__") = false := by decide +kernel
    have hx1 : (onTheHeap (Value.ref D) && Value.builtin "BaseException.__getattribute__" == Value.builtin "object.__getattribute__") = false := by rw [hx2]; rfl
    unfold getAttr? getAttrBy? getAttrBy
    refine wpAny_bind (wpAny_mkText (wpAny_bind (wpAny_attempt (wpAny_holding (wpAny_bind (L0.at (wpAny_bind (L1.at ?_))))))))
    show wpAny _ _ (if (onTheHeap (Value.ref D) && Value.builtin "BaseException.__getattribute__" == Value.builtin "object.__getattribute__") = true then _ else _) _ _ _
    rw [hx1, if_neg Bool.false_ne_true]
    unfold getAttrByItsOwn hookBefore
    refine wpAny_bind ?_
    rw [if_pos (show onTheHeap (Value.ref D) = true from rfl)]
    refine L2.at (wpAny_bind (wpAny_attempt (wpAny_holding ?_)))
    unfold callGetattribute
    rw [show (false && onTheHeap (Value.builtin "BaseException.__getattribute__")) = false from rfl, if_neg Bool.false_ne_true]
    unfold boundAndCalled
    rw [PySem.F.excAttr_ValueError.ga.bind (.ref x)]
    refine wpAny_bind (wpAny_pure ?_)
    show wpAny _ _ (call (.builtin "BaseException.__getattribute__") [.ref x, .str "__class__" t]) _ _ _
    refine wpAny_call (codeAny_call_builtin PySem.F.excAttr_ValueError.ga.plain PySem.F.entry_bexc_ga ?_)
    refine @check_slot (model prog w) _ _ ⟨hp, g, d, t + 1, os⟩ "BaseException.__getattribute__" "BaseException" "__getattribute__" (.ref x) [.str "__class__" t] [] _ (by decide +kernel) (by decide +kernel) sub (PySem.F.args_bexc_ga (.ref x) (.str "__class__" t)) ?_
    unfold Builtin.«object.__getattribute__»
    refine wpAny_bind (wpAny_of_eq (a := ((Value.ref x : Value), [Value.str "__class__" t])) (by first | rfl | (simp only [slotArgs]; rfl)) ?_)
    refine wpAny_bind (wpAny_pure (wpAny_bind (L0.at (wpAny_bind (L3.at ?_)))))
    show wpAny _ _ (holding [Value.builtin "object.__class__"] (call (.builtin "getset_descriptor.__get__") [.builtin "object.__class__", .ref x, .ref D]) >>= ret) _ _ _
    refine wpAny_bind (wpAny_holding (wpAny_call (class_get (s := ⟨hp, g, d, t + 1, os⟩) (ox := ox) (od := od) X I C.hm (wpAny_pure ?_))))
    show wpAny _ _ (handedOut (.ref D)) _ _ _
    rw [handedOut_of (v := .ref D) rfl]
    first
      | exact wpAny_pure (wpAny_pure h)
      | exact wpAny_pure h
      | exact wpAny_pure (wpAny_bind (wpAny_pure (wpAny_pure h)))
end
end PySem.W
namespace M
open PySem PySem.Spec PyProof.Rows L2
/-- isinstance(e, c), e the caught exception; its class and its fields are wished for -/
def rIsX (K : PySem.W.Frag) (a : Addr) (cls : Value) (d : Option Addr) : List V → Hp → VK → Prop := fun xs H Q => ∃ (D : Addr) (c : V) (cv : Value) (b : Bool), xs = [.ref a, c] ∧ (∀ u, RelV c u → u = cv) ∧ cls = .ref D ∧ (d = none ∨ ∃ dd fs, d = some dd ∧ H dd = some (.xd fs)) ∧ ExcC K D ∧ PySem.W.kitOne K (.ref D) cv = some b ∧ Q (.bl b) H
theorem call_isX {X : Cx} {a : Addr} {oe : Obj} {cls : Value} {d : Option Addr} {pn : List (Addr × Obj)} (hz : Zc cls d oe) (hf : ∃ vs, oe.data = .fields vs) : CallR (X.suite a ((a, oe) :: pn)) (.builtin "isinstance") (rIsX X.K a cls d) := by
  intro pins s σ H xs us Q I r h
  obtain ⟨D, c, cv, b, rfl, hcv, rfl, hdd, C, e, q⟩ := h
  cases r with
  | cons rx rr =>
    cases rr with
    | cons rt rr =>
      cases rr
      cases rx
      have ec := hcv _ rt
      subst ec
      obtain ⟨hget, _⟩ := I.pin (a, oe) (List.mem_append.mpr (.inl List.mem_cons_self))
      obtain ⟨vs, hv⟩ := hf
      obtain ⟨od, J⟩ : ∃ od, PySem.W.InstAt s.heap a oe D od := by
        rcases hdd with rfl | ⟨dd, fs, rfl, hdd⟩
        · exact ⟨none, hget, hz.1, by unfold PySem.W.notCls; rw [hv] <;> rfl, by rw [hz.2]; trivial⟩
        · have hx : ObjOk X.prog X.w H s.heap dd (.xd fs) := I.hok dd _ hdd
          obtain ⟨mA, hns, hr⟩ := hx
          obtain ⟨od, ho, hl⟩ := lookIn_ns hns
          exact ⟨some od, hget, hz.1, by unfold PySem.W.notCls; rw [hv] <;> rfl, by rw [hz.2]; exact ho⟩
      exact PySem.W.kia_one (PySem.W.kit_excM C) I.kIn J e (fun z => nomatch z) fun tk => ⟨.bl b, H, I.kept (t' := tk) fun _ _ z => z, rfl, q⟩
/-- what a slot holds that names the caught exception -/
structure ExV where
  a : Addr
  d : V
  e : Exn
instance repExV : Rep ExV where
  rp K I v x := v = .ref x.a ∧ XDr I x.d x.e.fs
  mono := fun e ⟨e1, h⟩ => ⟨e1, h.mono e⟩
def Res.catch {α : Type} (m : Res α) (f : Exn → Res α) : Res α := match m with | .exc e => f e | .ok a => .ok a | .bad => .bad
@[simp] theorem Res.catch_ok {α : Type} (a : α) (f : Exn → Res α) : (Res.ok a).catch f = .ok a := rfl
@[simp] theorem Res.catch_exc {α : Type} (e : Exn) (f : Exn → Res α) : (Res.exc e).catch f = f e := rfl
theorem wp_catch {α : Type} {m : Res α} {f : Exn → Res α} {P : α → Prop} {X : Exn → Prop} (h : wp (m.catch f) P X) : wp m P (fun e => wp (f e) P X) := by cases m <;> exact h
/-- a test of the class -/
def IsOk (K : PySem.W.Frag) (cls cv : Value) (m : Res Bool) : Prop := m = .bad ∨ ∃ D b, cls = .ref D ∧ ExcC K D ∧ PySem.W.kitOne K (.ref D) cv = some b ∧ m = .ok b
/-- a field: of the class c -/
def fldI (c f : Str) (e : Exn) : Res Int := if e.cls = c then (match e.fs.lookup f with | some (.int i) => .ok i | _ => .bad) else .bad
def fldT (c f : Str) (e : Exn) : Res Tx := if e.cls = c then (match e.fs.lookup f with | some (.str s) => if s.cps.toList.length ≤ line then .ok s.cps.toList else .bad | _ => .bad) else .bad
section
variable {K : PySem.W.Frag} {mg : Str → Option Value} {I I1 H I' H' : Hp} {σ σ' ρ : List (Option V)} {Γ Γ' Γ1 Θ : List Cell} {i j n : Nat} {v d : V} {Q : VK} {a : Addr} {e : Exn} {cls cv : Value} {c : V}
theorem hf_isX {m : Res Bool} (hΓ : Γ[i]? = some (.im (⟨a, d, e⟩ : ExV))) (hc : ∀ u, RelV c u → u = cv) (h : IsOk K cls cv m) : HF K (tCB (rIsX K a cls (dOf d)) (tCons (tVar i) (tCons (tC c) tNil))) Γ m := .mk fun X Q E q => by
  obtain ⟨v, ho, e1, hd⟩ := E.get hΓ
  subst e1
  rcases h with rfl | ⟨D, b, e2, C, k, rfl⟩
  · exact q.elim
  · refine ⟨_, ho, D, c, cv, b, rfl, hc, e2, ?_, C, k, q trivial⟩
    rcases hd with ⟨_, e3⟩ | ⟨dd, e3, h3⟩
    · rw [show d = .non from e3]
      exact .inl rfl
    · rw [show d = .ref dd from e3]
      exact .inr ⟨dd, _, rfl, E.same _ _ h3⟩
theorem hf_fldI {C : Addr} {x f : Str} (hΓ : Γ[i]? = some (.im (⟨a, d, e⟩ : ExV))) (hm : mg e.cls = some cls) (hC : mg x = some (.ref C)) : HF K (tXf a cls (dOf d) C f (tVar i)) Γ (fldI x f e) := .mk fun X Q E q => by
  obtain ⟨v, ho, e1, hd⟩ := E.get hΓ
  subst e1
  unfold fldI at q
  split at q
  · rename_i hx
    rw [hx, hC] at hm
    have hcl : cls = .ref C := (Option.some.inj hm).symm
    cases e3 : e.fs.lookup f with
    | none => rw [e3] at q; exact q.elim
    | some y =>
      rw [e3] at q
      cases y with
      | int i =>
        obtain ⟨dd, e4, h4⟩ := hd.resolve_left fun z => by rw [show e.fs = [] from z.1] at e3; cases e3
        exact ⟨_, ho, rfl, hcl, dd, e.fs, _, by rw [show d = .ref dd from e4]; rfl, E.same _ _ h4, e3, q trivial⟩
      | _ => exact q.elim
  · exact q.elim
theorem hf_fldT {C : Addr} {x f : Str} (hΓ : Γ[i]? = some (.im (⟨a, d, e⟩ : ExV))) (hm : mg e.cls = some cls) (hC : mg x = some (.ref C)) : HF K (tXf a cls (dOf d) C f (tVar i)) Γ (fldT x f e) := .mk fun X Q E q => by
  obtain ⟨v, ho, e1, hd⟩ := E.get hΓ
  subst e1
  unfold fldT at q
  split at q
  · rename_i hx
    rw [hx, hC] at hm
    have hcl : cls = .ref C := (Option.some.inj hm).symm
    cases e3 : e.fs.lookup f with
    | none => rw [e3] at q; exact q.elim
    | some y =>
      rw [e3] at q
      cases y with
      | str s =>
        dsimp only at q
        split at q
        · rename_i hl
          obtain ⟨dd, e4, h4⟩ := hd.resolve_left fun z => by rw [show e.fs = [] from z.1] at e3; cases e3
          exact ⟨_, ho, rfl, hcl, dd, e.fs, _, by rw [show d = .ref dd from e4]; rfl, E.same _ _ h4, e3, q hl⟩
        · exact q.elim
      | _ => exact q.elim
  · exact q.elim
/-- into the suite: e is bound -/
theorem Env.caught (E : Env K I H σ Γ (some d :: ρ) (.im (XD.mk e.fs) :: Θ)) (hi : i < Γ.length) : Env K I H (σ.set i (some (.ref a))) (Γ.set i (.im (⟨a, d, e⟩ : ExV))) ρ Θ := by
  have hd : XDr I d e.fs := E.topR
  have E2 : Env K I H σ Γ (some (.ref a) :: ρ) (.im (⟨a, d, e⟩ : ExV) :: Θ) := (Env.pop E).push ⟨rfl, hd⟩
  exact E2.store hi rfl
/-- what the clause 'except c as e' wishes, from a walk through its suite -/
theorem caught_as {c : Value} {ts : Addr → Value → Option Addr → TS} {Wout : WX} {D : Ends} (hx : ∀ cls, mg e.cls = some cls → PySem.W.exmOne K cls c = some true) (hi : i < Γ.length)
    (h : ∀ I H σ' a d cls, mg e.cls = some cls → Env K I H σ' (Γ.set i (.im (⟨a, d, e⟩ : ExV))) ρ Θ → ts a cls (dOf d) { nx := fun σ' H' => D.nx (σ'.set i none) H', rt := D.rt, bk := fun σ' H' => D.bk (σ'.set i none) H', ct := fun σ' H' => D.ct (σ'.set i none) H' } σ' H) :
    XWish K mg (wAs K c i ts Wout D) σ Γ ρ Θ e := fun I' H' cls d hm E => ⟨true, hx cls hm, fun _ a _ => h I' H' _ a d cls hm (E.caught hi), fun z => nomatch z⟩
theorem exm_all {c : Value} (h : ∃ cls, mg e.cls = some cls ∧ PySem.W.exmOne K cls c = some true) : ∀ cls, mg e.cls = some cls → PySem.W.exmOne K cls c = some true := fun cls hm => by
  obtain ⟨c2, h1, h2⟩ := h
  rw [h1] at hm
  rw [← Option.some.inj hm]
  exact h2
/-- a call while an exception is handled -/
theorem hot_suite {X : Cx} {a : Addr} {oe : Obj} {cls : Value} {d : Option Addr} {pn : List (Addr × Obj)} (hz : L2N.Zn cls d oe) (hf : ∃ vs, oe.data = .fields vs) : L2H.HotC (X.suite a ((a, oe) :: pn)) := by
  obtain ⟨vs, hv⟩ := hf
  exact ⟨(a, oe), ⟨rfl, vs, hv, hz.2.2 vs hv⟩, List.mem_cons_self⟩
end
end M
namespace M
open PySem PySem.Spec PyProof.Rows L2
/-! ### try: body, except c as e: suite -/
def tTryG (tb : WX → TS) (K : PySem.W.Frag) (c : Value) (i : Nat) (ts : Addr → Value → Option Addr → TS) : TS := fun D σ H => tb (wAs K c i ts (fun _ _ _ _ => False) D) D σ H
theorem ps_tryG {X : Cx} {x n : Str} {c : Value} {i : Nat} {body suite : List Stmt} {b₀ : Stmt} {np pos pos' : Pos} {tb : WX → TS} {ts : Addr → Value → Option Addr → TS}
    (hs : X.stack = X.env :: X.outer) (hf : X.env.frame = some X.env.locals) (hN : X.N.Nodup) (hi : X.N[i]? = some n) (hln : X.env.kindOf n = some .local) (hc : Names X x c)
    (hb : ∀ (W : WX) (pn : List (Addr × Obj)) (xe : Value → Shared → Prop), L2N.Takes (X.tr pn xe) W → PassesOwn (model X.prog X.w) X.A X.env xe → PSs (X.tr pn xe) body (tb W))
    (hsu : ∀ (a : Addr) (oe : Obj) (cls : Value) (d : Option Addr) (pn : List (Addr × Obj)), L2N.Zn cls d oe → (∃ vs, oe.data = .fields vs) → PSs (X.suite a ((a, oe) :: pn)) (b₀ :: suite) (ts a cls d)) :
    PS X (.Try body [.ExceptHandler (some (.Name x np)) (some n) (b₀ :: suite) pos'] [] [] pos) (tTryG tb X.K c i ts) := L2N.ps_try_as hs hf hN hi hln hc takesN0 hb hsu
theorem roomH_mk {k : Nat} {A : Around} (r : Room k A) (h : Option Value) : L2H.RoomH k (A.mark h) := ⟨r.dp, r.un⟩
section
variable {K : PySem.W.Frag} {mg : Str → Option Value} {I I1 H I' H' : Hp} {σ σ' ρ : List (Option V)} {Γ Γ' Γ1 Θ : List Cell} {i j n : Nat} {v d : V} {Q : VK} {a : Addr} {c : Value} {dn db dc : L2.St → Hp → Prop} {dr : VK}
variable {ω : Type} {P : ω → Prop} {X : Exn → Prop}
def TryP {ρτ S : Type} (K : PySem.W.Frag) (G : S → List Cell) (ρ : List (Option V)) (Θ : List Cell) (N : L2.St → Hp → Prop) (R : ρτ → Prop) : Lp ρτ S → Prop
  | .fin s => ∀ I' H' σ', Env K I' H' σ' (G s) ρ Θ → N σ' H'
  | .ret r => R r
theorem st_try {ρτ S : Type} {tb : WX → TS} {ts : Addr → Value → Option Addr → TS} {m : Res (Lp ρτ S)} {f : Exn → Res (Lp ρτ S)} {k : Lp ρτ S → Res ω} (ΓT : List Cell) (R : ρτ → Prop) (G : S → List Cell) (E : Env K I H σ Γ ρ Θ) (hi : i < ΓT.length) (h : wp ((m.catch f).bind k) P X)
    (ret : ∀ r, wp (k (.ret r)) P X → R r) (rest : ∀ s I' H' σ', Env K I' H' σ' (G s) ρ Θ → wp (k (.fin s)) P X → dn σ' H')
    (exm : ∀ e, wp (f e) (TryP K G ρ Θ dn R) X → ∀ cls, mg e.cls = some cls → PySem.W.exmOne K cls c = some true)
    (suite : ∀ e, wp (f e) (TryP K G ρ Θ dn R) X → ∀ I H σ' a d cls, mg e.cls = some cls → Env K I H σ' (ΓT.set i (.im (⟨a, d, e⟩ : ExV))) ρ Θ →
      ts a cls (dOf d) ⟨fun σ' H' => dn (σ'.set i none) H', dr, fun σ' H' => db (σ'.set i none) H', fun σ' H' => dc (σ'.set i none) H'⟩ σ' H)
    (body : (∀ e, wp (f e) (TryP K G ρ Θ dn R) X → ∀ σ, XWish K mg (wAs K c i ts (fun _ _ _ _ => False) ⟨dn, dr, db, dc⟩) σ ΓT ρ Θ e) → wp m (TryP K G ρ Θ dn R) (fun e => wp (f e) (TryP K G ρ Θ dn R) X) → tb (wAs K c i ts (fun _ _ _ _ => False) ⟨dn, dr, db, dc⟩) ⟨dn, dr, db, dc⟩ σ H) :
    tTryG tb K c i ts ⟨dn, dr, db, dc⟩ σ H := by
  have h2 : wp (m.catch f) (TryP K G ρ Θ dn R) X := wp_mono (wp_bind.mp h) (fun y q => by
    cases y with
    | fin s => exact fun I' H' σ' E' => rest s I' H' σ' E' q
    | ret r => exact ret r q) fun _ z => z
  exact body (fun e x σ => caught_as (exm e x) hi (suite e x)) (wp_catch h2)
/-- the suite's end: e is gone -/
theorem Env.gone (E : Env K I H σ Γ ρ Θ) (hi : i < Γ.length) (h : Γ.set i .any = Γ') : Env K I H (σ.set i none) Γ' ρ Θ := by
  subst h
  exact Env.anyOf (E.weak wkAny) hi
theorem wp_kn {b : Bool} {m : Res ω} (h : wp (if b = true then m else .bad) P X) : wp m P X := by
  cases b with
  | true => exact h
  | false => exact h.elim
theorem wp_knT {b : Bool} {m : Res ω} (h : wp (if b = true then m else .bad) P X) : b = true := by
  cases b with
  | true => rfl
  | false => exact h.elim
end
end M
namespace M
open PySem PySem.Spec PyProof.Rows L2
/-! ### the end -/
def clsBody (s : Stmt) : List Stmt := match s with
  | .ClassDef _ _ _ b _ _ _ _ _ _ _ => b
  | _ => []
def spLaw (m : Scr → Res Bool) (K : PySem.W.Frag) : Sp := fun vs H Q _ => ∃ a ns, vs = [.ref a] ∧ SqL K H a (ns.map V.int) ∧ m ⟨ns⟩ = .ok true ∧ ∀ H', Q (.bl true) H'
theorem spLaw_sp {m : Scr → Res Bool} {K : PySem.W.Frag} {mg : Str → Option Value} {vs : List V} {H : Hp} {Q : VK} {E : XK} (h : spLaw m K vs H Q E) : SpM K mg 1 (fun (a : Scr) => [.im a]) (fun a => m a) (fun b => .im b) vs H Q E := by
  obtain ⟨a, ns, rfl, hq, e, q⟩ := h
  refine ⟨rfl, ⟨ns⟩, H, [], [], ⟨rfl, rfl, Same.refl _, [[]], ⟨⟨rfl, _, rfl, a, rfl, hq⟩, trivial⟩, by simp, by simp⟩, ?_⟩
  show wp (m ⟨ns⟩) _ _
  rw [e]
  intro I' H' v E'
  obtain ⟨ev, _⟩ := E'.topS
  rw [ev]
  exact q H'
theorem spLaw_of {m : Scr → Res Bool} {n : Nat} (hm : ∀ ns : List Int, ns.length ≤ n → m ⟨ns⟩ = .ok true) (K : PySem.W.Frag) (H : Hp) (a : Addr) (ns : List Int) (hl : ns.length ≤ n) (hq : SqL K H a (ns.map V.int)) :
    spLaw m K [.ref a] H (fun v _ => v = .bl true) fun _ _ _ => False := ⟨a, ns, rfl, hq, hm ns hl, fun _ => rfl⟩
theorem no_CX {P : Program} {w : World} {H : Hp} {s : Shared} {e : Value} {s' : Shared} (h : L2N.CX P w [] H s (fun _ _ _ => False) e s') : False := by
  obtain ⟨_, _, _, _, _, _, _, _, _, _, _, _, z⟩ := h
  exact z
theorem kit_ref {K : PySem.W.Frag} {C T : Addr} {b : Bool} (hd : PySem.W.hasDictIn K T = true) (ht : PySem.W.typeIn K (.ref T) = some (.type "type")) (hs : PySem.W.subIn K (.ref C) (.ref T) = some b) (hc : PySem.W.subIn K (.ref C) (.ref C) = some true) :
    PySem.W.kitOne K (.ref C) (.ref T) = some b := by
  unfold PySem.W.kitOne
  by_cases e : C = T
  · subst e
    rw [hc] at hs
    rw [if_pos (beq_self_eq_true _), hs]
  · have ne : (Value.ref C == Value.ref T) = false := beq_eq_false_iff_ne.mpr fun z => e (Value.ref.inj z)
    rw [ne, if_neg Bool.false_ne_true]
    obtain ⟨cd, hcd, _⟩ := PySem.W.any_some hd
    show (if ((PySem.W.clsIn K T).isSome && PySem.W.typeIn K (.ref T) == some (.type "type")) = true then PySem.W.subIn K (.ref C) (.ref T) else none) = some b
    have e2 : ((PySem.W.clsIn K T).isSome && PySem.W.typeIn K (.ref T) == some (.type "type")) = true := by rw [hcd, ht] <;> rfl
    rw [if_pos e2]
    exact hs
theorem kit_typ {K : PySem.W.Frag} {C : Addr} {T : String} {b : Bool} (hk : PySem.W.kitMeta T = true) (hs : PySem.W.subIn K (.ref C) (.type T) = some b) : PySem.W.kitOne K (.ref C) (.type T) = some b := by
  unfold PySem.W.kitOne
  have ne : (Value.ref C == Value.type T) = false := beq_eq_false_iff_ne.mpr fun z => nomatch z
  rw [ne, if_neg Bool.false_ne_true]
  show (if PySem.W.kitMeta T = true then PySem.W.subIn K (.ref C) (.type T) else none) = some b
  rw [if_pos hk]
  exact hs
end M
namespace M
open PySem PySem.Spec PyProof.Rows L2
/-! ### more of lists -/
noncomputable def lCat {α : Type} (xs ys : List α) : Res (List α) := clo (if xs.length + ys.length ≤ line then .ok (xs ++ ys) else .bad)
noncomputable def lRep {α : Type} (xs : List α) (n : Int) : Res (List α) := clo (if -(2 ^ 63) ≤ n ∧ n < 2 ^ 63 ∧ xs.length * n.toNat ≤ line then .ok (List.replicate n.toNat xs).flatten else .bad)
section
variable {K : PySem.W.Frag} {mg : Str → Option Value} {I I1 H I' H' : Hp} {σ σ' ρ : List (Option V)} {Γ Γ' Γ1 Θ : List Cell} {i j n : Nat} {v v0 v1 v2 v3 : V} {te tl ti : TE} {ta : TA} {tt : TT} {t u : TS} {dn db dc : L2.St → Hp → Prop} {dr : VK} {Q : VK}
variable {pn : Option V} {ω : Type} {P : ω → Prop} {X : Exn → Prop} {α β γ δ : Type}
theorem paired_rep {f : V → α → Prop} {vs : List V} {xs : List α} (p : Paired f vs xs) : ∀ n : Nat, Paired f (List.replicate n vs).flatten (List.replicate n xs).flatten
  | 0 => by simp; exact .nil
  | n + 1 => by
    rw [List.replicate_succ, List.replicate_succ, List.flatten_cons, List.flatten_cons]
    exact paired_app p (paired_rep p n)
theorem cat_of [Rep α] {xs ys : List α} {k : List α → Res ω} (E : Env K I H σ Γ (some v2 :: some v1 :: ρ) (.im ys :: .im xs :: Θ)) (h : wp ((lCat xs ys).bind k) P X)
    (next : ∀ vs, Env K I H σ Γ ρ Θ → Paired (fun v x => Rep.rp K I v x) vs (xs ++ ys) → wp (k (xs ++ ys)) P X → ∀ p, H p = none → Q (.ref p) (upd H p (.lst vs))) : OpG rCat v1 v2 H Q := by
  obtain ⟨b, ws, rfl, hb, q⟩ := E.topR
  obtain ⟨a, vs, rfl, ha, p⟩ := E.pop.topR
  have l1 : vs.length = xs.length := Paired.length p
  have l2 : ws.length = ys.length := Paired.length q
  unfold lCat at h
  rw [clo_eq] at h
  split at h
  · rename_i hz
    exact ⟨a, b, vs, ws, rfl, rfl, E.same _ _ ha, E.same _ _ hb, by rw [l1, l2, ← line_eq]; exact hz, next _ E.pop.pop (paired_app p q) h⟩
  · exact h.elim
theorem st_catI [Rep α] {xs ys : List α} {k : List α → Res ω} (E : Env K I H σ Γ (some v2 :: some v1 :: ρ) (.im ys :: .im xs :: Θ)) (h : wp ((lCat xs ys).bind k) P X)
    (next : ∀ zs I' H' v, Env K I' H' σ Γ (some v :: ρ) (.im zs :: Θ) → wp (k zs) P X → Q v H') : OpG rCat v1 v2 H Q :=
  cat_of E h fun vs E r h => st_newI E r fun I' H' v E => next _ I' H' v E h
theorem st_catO [Rep α] {xs ys : List α} {k : List α → Res ω} (E : Env K I H σ Γ (some v2 :: some v1 :: ρ) (.im ys :: .im xs :: Θ)) (h : wp ((lCat xs ys).bind k) P X)
    (next : ∀ zs H' v, Env K I H' σ Γ (some v :: ρ) (.own zs :: Θ) → wp (k zs) P X → Q v H') : OpG rCat v1 v2 H Q :=
  cat_of E h fun vs E r h => st_newO E r fun H' v E => next _ H' v E h
theorem rep_of [Rep α] {xs : List α} {m : Int} {k : List α → Res ω} (E : Env K I H σ Γ (some v2 :: some v1 :: ρ) (.im m :: .im xs :: Θ)) (h : wp ((lRep xs m).bind k) P X)
    (next : ∀ vs, Env K I H σ Γ ρ Θ → Paired (fun v x => Rep.rp K I v x) vs (List.replicate m.toNat xs).flatten → wp (k (List.replicate m.toNat xs).flatten) P X → ∀ p, H p = none → Q (.ref p) (upd H p (.lst vs))) : OpG rRep v1 v2 H Q := by
  obtain ⟨e2, _⟩ := E.topS
  subst e2
  obtain ⟨a, vs, rfl, ha, p⟩ := E.pop.topR
  have l1 : vs.length = xs.length := Paired.length p
  unfold lRep at h
  rw [clo_eq] at h
  split at h
  · rename_i hz
    exact ⟨a, m, vs, rfl, rfl, E.same _ _ ha, hz.1, hz.2.1, by rw [l1, ← line_eq]; exact hz.2.2, next _ E.pop.pop (paired_rep p _) h⟩
  · exact h.elim
theorem st_repI [Rep α] {xs : List α} {m : Int} {k : List α → Res ω} (E : Env K I H σ Γ (some v2 :: some v1 :: ρ) (.im m :: .im xs :: Θ)) (h : wp ((lRep xs m).bind k) P X)
    (next : ∀ zs I' H' v, Env K I' H' σ Γ (some v :: ρ) (.im zs :: Θ) → wp (k zs) P X → Q v H') : OpG rRep v1 v2 H Q :=
  rep_of E h fun vs E r h => st_newI E r fun I' H' v E => next _ I' H' v E h
theorem st_repO [Rep α] {xs : List α} {m : Int} {k : List α → Res ω} (E : Env K I H σ Γ (some v2 :: some v1 :: ρ) (.im m :: .im xs :: Θ)) (h : wp ((lRep xs m).bind k) P X)
    (next : ∀ zs H' v, Env K I H' σ Γ (some v :: ρ) (.own zs :: Θ) → wp (k zs) P X → Q v H') : OpG rRep v1 v2 H Q :=
  rep_of E h fun vs E r h => st_newO E r fun H' v E => next _ H' v E h
/-! list(xs), list(t), tuple(xs) -/
abbrev rListOf (K : PySem.W.Frag) : List V → Hp → VK → Prop := fun xs H Q => ∃ p ys, xs = [.ref p] ∧ (SqL K H p ys ∨ SqT K H p ys) ∧ ∀ l, H l = none → Q (.ref l) (upd H l (.lst ys))
theorem st_listI [Rep α] {xs : List α} (E : Env K I H σ Γ (some v :: ρ) (.im xs :: Θ)) (next : ∀ I' H' v, Env K I' H' σ Γ (some v :: ρ) (.im xs :: Θ) → Q v H') : CbG (rListOf K) [v] H Q := by
  obtain ⟨a, vs, rfl, ha, p⟩ := E.topR
  exact ⟨a, vs, rfl, .inl (SqL.of (E.same _ _ ha)), st_newI (Env.pop E) p next⟩
theorem st_listO [Rep α] {xs : List α} (E : Env K I H σ Γ (some v :: ρ) (.im xs :: Θ)) (next : ∀ H' v, Env K I H' σ Γ (some v :: ρ) (.own xs :: Θ) → Q v H') : CbG (rListOf K) [v] H Q := by
  obtain ⟨a, vs, rfl, ha, p⟩ := E.topR
  exact ⟨a, vs, rfl, .inl (SqL.of (E.same _ _ ha)), st_newO (Env.pop E) p next⟩
theorem st_listTI [Rep α] {xs : TupL α} (E : Env K I H σ Γ (some v :: ρ) (.im xs :: Θ)) (next : ∀ I' H' v, Env K I' H' σ Γ (some v :: ρ) (.im xs.l :: Θ) → Q v H') : CbG (rListOf K) [v] H Q := by
  obtain ⟨a, vs, rfl, ha, p⟩ := E.topR
  exact ⟨a, vs, rfl, .inr (same_seqT E.same ha), st_newI (Env.pop E) p next⟩
theorem st_listTO [Rep α] {xs : TupL α} (E : Env K I H σ Γ (some v :: ρ) (.im xs :: Θ)) (next : ∀ H' v, Env K I H' σ Γ (some v :: ρ) (.own xs.l :: Θ) → Q v H') : CbG (rListOf K) [v] H Q := by
  obtain ⟨a, vs, rfl, ha, p⟩ := E.topR
  exact ⟨a, vs, rfl, .inr (same_seqT E.same ha), st_newO (Env.pop E) p next⟩
/-- xs.reverse() -/
theorem st_rev [Rep α] {xs : List α} {l : Addr} (E : Env K I H σ Γ ρ Θ) (hl : σ[i]? = some (some (.ref l))) (hΓ : Γ[i]? = some (.own xs pn)) (next : ∀ H', Env K I H' σ (Γ.set i (.own xs.reverse pn)) ρ Θ → Q .non H') : rReverse (.ref l) [] H Q := by
  obtain ⟨p, vs, hs, hp, _, q, ch, _⟩ := E.ownAt hΓ
  have e : l = p := by
    rw [hl] at hs
    exact V.ref.inj (Option.some.inj (Option.some.inj hs))
  subst e
  have rv : ∀ {vs : List V} {xs : List α}, Paired (fun v x => Rep.rp K I v x) vs xs → Paired (fun v x => Rep.rp K I v x) vs.reverse xs.reverse := fun {vs xs} p => by
    induction p with
    | nil => exact .nil
    | cons r t ih =>
      rw [List.reverse_cons, List.reverse_cons]
      exact paired_app ih (.cons r .nil)
  exact ⟨l, vs, rfl, rfl, hp, next _ (ch (Grow.refl E.same) _ _ (rv q))⟩
end
end M
namespace M
open PySem PySem.Spec PyProof.Rows L2
/-! ### while: fuel tells how many turns at most -/
noncomputable def fuel : Nat := clo 100000
def whileR {ρ S : Type} (c : S → Res Bool) (f : S → Res (Fl ρ S)) : Nat → S → Res (Lp ρ S)
  | 0, _ => .bad
  | n + 1, s => (c s).bind fun b => if b = true then (f s).bind fun y => (match y with
    | .nx s' => whileR c f n s'
    | .bk s' => .ok (.fin s')
    | .rt r => .ok (.ret r)) else .ok (.fin s)
theorem whileR_succ {ρ S : Type} {c : S → Res Bool} {f : S → Res (Fl ρ S)} {n : Nat} {s : S} : whileR c f (n + 1) s = (c s).bind fun b => if b = true then (f s).bind fun y => (match y with
    | .nx s' => whileR c f n s'
    | .bk s' => .ok (.fin s')
    | .rt r => .ok (.ret r)) else .ok (.fin s) := rfl
section
variable {K : PySem.W.Frag} {mg : Str → Option Value} {I I1 H I' H' : Hp} {σ σ' ρ : List (Option V)} {Γ Γ' Γ1 Θ : List Cell} {tt : TT} {tb : TS} {dn db dc : L2.St → Hp → Prop} {dr : VK}
variable {ω : Type} {P : ω → Prop} {X : Exn → Prop}
/-- a while; s: the data at the head -/
theorem st_while {ρτ S : Type} {c : S → Res Bool} {f : S → Res (Fl ρτ S)} {k : Lp ρτ S → Res ω} {s0 : S} {n : Nat} (R : ρτ → Prop) (G : S → List Cell)
    (E : Env K I H σ Γ ρ Θ) (w : Wk Γ (G s0)) (h : wp ((whileR c f n s0).bind k) P X) (ret : ∀ r, wp (k (.ret r)) P X → R r)
    (test : ∀ s I' H' σ' (Q : Bool → Hp → Prop), Env K I' H' σ' (G s) ρ Θ → wp (c s) (fun b => ∀ I'' H'', Env K I'' H'' σ' (G s) ρ Θ → Q b H'') X → tt σ' H' Q)
    (turn : ∀ s I' H' σ' (N B : L2.St → Hp → Prop), Env K I' H' σ' (G s) ρ Θ → wp (f s) (TurnP K G ρ Θ N B R) X → tb ⟨N, dr, B, N⟩ σ' H')
    (rest : ∀ s I' H' σ', Env K I' H' σ' (G s) ρ Θ → wp (k (.fin s)) P X → dn σ' H') : tWhile tt tb ⟨dn, dr, db, dc⟩ σ H := by
  refine ⟨fun m σ' H' => ∃ s I', Env K I' H' σ' (G s) ρ Θ ∧ wp ((whileR c f m s).bind k) P X, ⟨n, s0, I, E.weak w, h⟩, ?_⟩
  rintro m σ' H' ⟨s, I', E', h'⟩
  cases m with
  | zero => exact h'.elim
  | succ m =>
    rw [whileR_succ, Res.bind_assoc] at h'
    refine test s I' H' σ' _ E' (wpb h' fun b h2 I2 H2 E2 => ?_)
    cases b with
    | false => exact rest s I2 H2 σ' E2 h2
    | true =>
      rw [if_pos rfl, Res.bind_assoc] at h2
      refine ⟨fun σ3 H3 => ∃ s I', Env K I' H3 σ3 (G s) ρ Θ ∧ wp ((whileR c f m s).bind k) P X, fun σ3 H3 z => ⟨m, by omega, z⟩, ?_⟩
      refine turn s I2 H2 σ' _ _ E2 (wpb h2 fun y q => ?_)
      cases y with
      | nx s' => exact fun I3 H3 σ3 E3 => ⟨s', I3, E3, q⟩
      | bk s' => exact fun I3 H3 σ3 E3 => rest s' I3 H3 σ3 E3 q
      | rt r => exact ret r q
end
/-- list(range(b)) -/
instance rgDec (b : Int) : Decidable (L2.RgOk 0 b) := by unfold L2.RgOk; exact inferInstance
noncomputable def rngL (b : Int) : Res (List Int) := clo (if L2.RgOk 0 b then .ok (rng 0 b) else .bad)
section
variable {K : PySem.W.Frag} {mg : Str → Option Value} {I I1 H I' H' : Hp} {σ σ' ρ : List (Option V)} {Γ Γ' Γ1 Θ : List Cell} {i j : Nat} {te : TE} {dn db dc : L2.St → Hp → Prop} {dr : VK} {Q : VK} {pn : Option V} {v : V}
variable {ω : Type} {P : ω → Prop} {X : Exn → Prop} {α : Type}
/-- a = b = e -/
theorem st_set2 [Sca α] {m : Res α} {k : α → Res ω} (E : Env K I H σ Γ ρ Θ) (ht : HF K te Γ m) (h : wp (m.bind k) P X) (hi : i < Γ.length) (hj : j < Γ.length)
    (next : ∀ x σ', Env K I H σ' ((Γ.set i (.im x)).set j (.im x)) ρ Θ → wp (k x) P X → dn σ' H) : tAsg2 te (gName i) (gName j) ⟨dn, dr, db, dc⟩ σ H :=
  ht.run X _ E (wpb h fun x h ok => next x _ ((E.setS ok hi rfl).setS ok (by simpa using hj) rfl) h)
/-- sum(xs) of whole numbers -/
theorem hf_sum_of {xs : List Int} (hv : ∀ {I H : Hp} {σ ρ : List (Option V)} {Θ : List Cell}, Env K I H σ Γ ρ Θ → ∃ a vs, σ[j]? = some (some (.ref a)) ∧ H a = some (.lst vs) ∧ Paired (fun v x => Rep.rp K I v x) vs xs) : HF K (tCB (rSum K) (tCons (tVar j) tNil)) Γ (.ok xs.sum) := .mk fun X Q E q => by
  obtain ⟨a, vs, hs, ha, p⟩ := hv E
  exact ⟨_, hs, a, xs, rfl, by rw [← ints_of p]; exact SqL.of ha, q trivial⟩
theorem hf_sumL {xs : List Int} (hΓ : Γ[j]? = some (.im xs)) : HF K (tCB (rSum K) (tCons (tVar j) tNil)) Γ (.ok xs.sum) := hf_sum_of fun E => E.listAt hΓ
theorem hf_sumO {xs : List Int} (hΓ : Γ[j]? = some (.own xs pn)) : HF K (tCB (rSum K) (tCons (tVar j) tNil)) Γ (.ok xs.sum) := hf_sum_of fun E => E.ownAt' hΓ
/-- list(range(n)) -/
theorem rgV_rng (a b : Int) : rgV a b = (rng a b).map V.int := by
  unfold rgV rng
  rw [List.map_map]
  rfl
theorem lstRg_of {m : Res Int} {k : List Int → Res ω} (E : Env K I H σ Γ ρ Θ) (ht : HF K te Γ m) (h : wp (m.bind fun b => (rngL b).bind k) P X)
    (next : ∀ b : Int, wp (k (rng 0 b)) P X → ∀ p, H p = none → Q (.ref p) (upd H p (.lst ((rng 0 b).map V.int)))) : tLstRg (tRg1 te) σ H Q :=
  ht.run X _ E (wpb h fun b h _ => by
    unfold rngL at h
    rw [clo_eq] at h
    by_cases hr : L2.RgOk 0 b
    · rw [if_pos hr] at h
      exact ⟨b, rfl, hr, by rw [rgV_rng]; exact next b h⟩
    · rw [if_neg hr] at h
      exact h.elim)
theorem st_lstRgI {m : Res Int} {k : List Int → Res ω} (E : Env K I H σ Γ ρ Θ) (ht : HF K te Γ m) (h : wp (m.bind fun b => (rngL b).bind k) P X) (next : ∀ xs I' H' v, Env K I' H' σ Γ (some v :: ρ) (.im xs :: Θ) → wp (k xs) P X → Q v H') : tLstRg (tRg1 te) σ H Q :=
  lstRg_of E ht h fun b h => st_newI E (ints_paired _) fun I' H' v E => next _ I' H' v E h
theorem st_lstRgO {m : Res Int} {k : List Int → Res ω} (E : Env K I H σ Γ ρ Θ) (ht : HF K te Γ m) (h : wp (m.bind fun b => (rngL b).bind k) P X) (next : ∀ xs H' v, Env K I H' σ Γ (some v :: ρ) (.own xs :: Θ) → wp (k xs) P X → Q v H') : tLstRg (tRg1 te) σ H Q :=
  lstRg_of E ht h fun b h => st_newO E (ints_paired _) fun H' v E => next _ H' v E h
/-- xs[i], xs owned, its items of any kind -/
theorem st_ixAt [Rep α] {xs : List α} {ti : TE} {m : Res Int} {k : α → Res ω} (hv : ∃ a vs, σ[j]? = some (some (.ref a)) ∧ H a = some (.lst vs) ∧ Paired (fun v x => Rep.rp K I v x) vs xs) (E : Env K I H σ Γ ρ Θ) (hi : HF K ti Γ m) (h : wp (m.bind fun i => (lGet xs i).bind k) P X)
    (next : ∀ x v, Env K I H σ Γ (some v :: ρ) (.im x :: Θ) → wp (k x) P X → Q v H) : tOp (rIxL K) (tVar j) ti σ H Q := by
  obtain ⟨a, vs, hs, ha, p⟩ := hv
  refine ⟨_, hs, hi.run X _ E (wpb h fun i h _ => ?_)⟩
  unfold lGet at h
  cases e : atI xs i with
  | none => rw [e] at h; exact h.elim
  | some x =>
    rw [e] at h
    obtain ⟨w, e2, r⟩ := atI_paired p e
    exact ⟨a, vs, i, w, rfl, rfl, SqL.of ha, e2, next x w (E.push r) h⟩
theorem st_ixOwn [Rep α] {xs : List α} {ti : TE} {m : Res Int} {k : α → Res ω} (E : Env K I H σ Γ ρ Θ) (hΓ : Γ[j]? = some (.own xs pn)) (hi : HF K ti Γ m) (h : wp (m.bind fun i => (lGet xs i).bind k) P X)
    (next : ∀ x v, Env K I H σ Γ (some v :: ρ) (.im x :: Θ) → wp (k x) P X → Q v H) : tOp (rIxL K) (tVar j) ti σ H Q := st_ixAt (E.ownAt' hΓ) E hi h next
def RevG (K : PySem.W.Frag) (x : V) (H1 : Hp) (Q : VK) : Prop := ∃ a xs, x = .ref a ∧ SqL K H1 a xs ∧ ∀ p, H1 p = none → Q (.ref p) (upd H1 p (.lst xs.reverse))
theorem uRevL (h : te σ H fun x H1 => RevG K x H1 Q) : tRevL K te σ H Q := h
theorem paired_rev {f : V → α → Prop} {vs : List V} {xs : List α} (p : Paired f vs xs) : Paired f vs.reverse xs.reverse := by
  induction p with
  | nil => exact .nil
  | cons r t ih =>
    rw [List.reverse_cons, List.reverse_cons]
    exact paired_app ih (.cons r .nil)
theorem st_revLI [Rep α] {xs : List α} (E : Env K I H σ Γ (some v :: ρ) (.im xs :: Θ)) (next : ∀ I' H' v, Env K I' H' σ Γ (some v :: ρ) (.im xs.reverse :: Θ) → Q v H') : RevG K v H Q := by
  obtain ⟨a, vs, rfl, ha, p⟩ := E.topR
  exact ⟨a, vs, rfl, SqL.of (E.same _ _ ha), st_newI (Env.pop E) (paired_rev p) next⟩
theorem st_revLO [Rep α] {xs : List α} (E : Env K I H σ Γ (some v :: ρ) (.im xs :: Θ)) (next : ∀ H' v, Env K I H' σ Γ (some v :: ρ) (.own xs.reverse :: Θ) → Q v H') : RevG K v H Q := by
  obtain ⟨a, vs, rfl, ha, p⟩ := E.topR
  exact ⟨a, vs, rfl, SqL.of (E.same _ _ ha), st_newO (Env.pop E) (paired_rev p) next⟩
end
/-- a call without arguments, what is raised wished for at the caller's slots -/
theorem pe_callS0 {X : Cx} {CX : CXT} {k : Nat} {f : Addr} {fd : FuncData} {ps : List Str} {sp : Sp} {E : L2.St → XK} {x : Str} {p pos : Pos} (F : FnOk X.prog X.w X.K X.mg X.base CX k f fd ps sp) (hr : Room k X.A) (hg : Gl X x) (hm : X.mg x = some (.ref f))
    (hk : PySem.W.keepIn X.K (.ref f) = true) (hb : Binds X.K fd ps []) (hx : ∀ σ, PassesAt CX X σ (E σ)) (hdb : (x == ("__debug__" : Str)) = false := by decide) : PE X (.Call (.Name x p) [] [] pos) (tCallS sp E tNil) := .mk fun pins s σ H Q I h =>
  wpAny_Call_Name_kw (ld_glob I hg hm (PySem.W.callWith_K0 I.kIn hk (run_fnS (us := []) F hr hb (hx σ) I .nil h)) hdb)
end M
/-! ### sorted of tuples of whole numbers -/
namespace SrtM
open PySem PySem.W PySem.Calls PyProof.Rows SrtO
def IsTupI (h : Heap) (v : Value) (ns : List Int) : Prop := ∃ a o xs n, v = .ref a ∧ h.get? a = some o ∧ o.cls = .type "tuple" ∧ o.data = .seq xs n ∧ IntsAre xs.toList ns
theorem IsTupI.keeps {h h' : Heap} {v : Value} {ns : List Int} (p : IsTupI h v ns) (k : ∀ b o, h.get? b = some o → o.cls = .type "tuple" → h'.get? b = some o) : IsTupI h' v ns := by
  obtain ⟨a, o, xs, n, e, ho, hc, hd, i⟩ := p
  exact ⟨a, o, xs, n, e, k _ _ ho hc, hc, hd, i⟩
section
variable {prog : Program} {w : World} {A : Around} {E : Value → Shared → Prop} {s : Shared}
theorem lexI {b fin : Bool} {Q : Bool → Shared → Prop} {xs ys : List Value} {ns ms : List Int} (i : Nat) (hx : IntsAre xs ns) (hy : IntsAre ys ms) (hf : fin = decide (ns.length < ms.length)) (h : Q (HT.lexLt ns ms) s) : KatLex prog w A b fin Q (xs.zip ys) i s := by
  induction hx generalizing ys ms i with
  | nil =>
    rw [List.zip_nil_left]
    cases hy with
    | nil => rw [hf]; exact kat_nil h
    | cons q u hy => rw [hf]; exact kat_nil h
  | @cons p t xs ns hx ih =>
    cases hy with
    | nil =>
      rw [List.zip_nil_right, hf]
      have e : decide ((p :: ns).length < ([] : List Int).length) = false := decide_eq_false (by simp)
      rw [e]
      exact kat_nil h
    | @cons q u ys ms hy =>
      rw [List.zip_cons_cons]
      refine kat_cons (SeqAt.EqAt.int_int p t q u prog w _ _ ?_)
      have hf' : fin = decide (ns.length < ms.length) := by rw [hf]; simp
      rw [HT.lexLt_cons] at h
      refine kat_go (fun e1 => ?_) (fun e1 => ?_)
      · have ex : p = q := by simpa using e1
        rw [if_pos ex] at h
        exact kat_yes (ih (i + 1) hy hf' h)
      · have ex : ¬ p = q := by simpa using e1
        rw [if_neg ex] at h
        exact kat_no (by
          generalize (b && i == 0) = c
          cases c with
          | true => exact oneLt_int h
          | false => exact kat_one _ _ (PyProof.Rows.lt_int (Q := PySem.W.BoolBack Q) h))
theorem tup_cmp {vs : List Value} {k : Value → List Int} (hp : ∀ v ∈ vs, IsTupI s.heap v (k v)) : Cmp prog w A s (tuples' true) (fun p => p.1 ∈ vs) (lt2 fun v u => HT.lexLt (k v) (k u)) := by
  intro p q hm hm'
  have h1 := hp _ hm
  have h2 := hp _ hm'
  show wpAny (model prog w) A (keyLt' (tuples' true) p.1 q.1) (fun r s' => s' = s ∧ r = HT.lexLt (k p.1) (k q.1)) (fun _ _ => False) s
  generalize k p.1 = x at h1 ⊢
  generalize k q.1 = y at h2 ⊢
  obtain ⟨a, o, xs, n, e, ho, hc, hd, i⟩ := h1
  obtain ⟨a', o', xs', n', e', ho', hc', hd', i'⟩ := h2
  rw [e, e']
  refine kat_lt ho hd ho' hd' ?_
  refine lexI 0 i i' ?_ ⟨rfl, rfl⟩
  have e1 := i.length
  have e2 := i'.length
  rw [Array.length_toList] at e1 e2
  rw [e1, e2]
theorem firsts {h : Heap} {k : Value → List Int} : ∀ {vs : List Value}, (∀ v ∈ vs, IsTupI h v (k v) ∧ k v ≠ []) → ∃ fs : List Value, KatTups h vs fs ∧ fs.length = vs.length ∧ ∀ f ∈ fs, ∃ x t, f = Value.int x t
  | [], _ => ⟨[], KatTups.nil, rfl, fun _ hm => by simp at hm⟩
  | v :: vs, hp => by
    obtain ⟨fs, h1, h2, h3⟩ := firsts (vs := vs) fun v' hm => hp v' (List.mem_cons_of_mem _ hm)
    obtain ⟨⟨a, o, xs, n, e0, ho, hc, hd, i⟩, hne⟩ := hp v List.mem_cons_self
    subst e0
    obtain ⟨y, ys, e⟩ : ∃ y ys, xs.toList = y :: ys := by
      cases q : xs.toList with
      | nil =>
        rw [q] at i
        generalize k (.ref a) = kk at i hne
        cases i
        exact absurd rfl hne
      | cons y ys => exact ⟨y, ys, rfl⟩
    obtain ⟨m, t, hy⟩ := i.all y (by rw [e]; exact List.mem_cons_self ..)
    refine ⟨y :: fs, KatTups.cons ho hc hd ?_ h1, by simp [h2], ?_⟩
    · have z := congrArg (fun l : List Value => l[0]?) e
      simpa using z
    · intro f hf
      rcases List.mem_cons.mp hf with rfl | hf
      · exact ⟨m, t, hy⟩
      · exact h3 f hf
theorem tups_sortable {a : Addr} {vs : List Value} {k : Value → List Int} (h0 : 0 < vs.length) (hp : ∀ v ∈ vs, IsTupI s.heap v (k v) ∧ k v ≠ []) (ha : ∀ o, s.heap.get? a = some o → o.cls ≠ .type "tuple") : SortableO prog w A s a vs fun v u => HT.lexLt (k v) (k u) := by
  intro h' keep
  have hp' : ∀ v ∈ vs, IsTupI h' v (k v) ∧ k v ≠ [] := fun v hm => ⟨(hp v hm).1.keeps fun b o e c => keep b o (fun z => by subst z; exact ha o e c) e, (hp v hm).2⟩
  obtain ⟨fs, h1, h2, h3⟩ := firsts hp'
  refine ⟨tuples' true, fun Q E hq => ?_, tup_cmp fun v hm => (hp' v hm).1⟩
  refine kat_kind (T := .type "int") h1 (by omega) (fun f hm => ?_) (by rfl) ?_
  · obtain ⟨x, t, rfl⟩ := h3 f hm
    exact Looks.now
  · have e : (Value.type "int" != Value.type "tuple") = true := by first | decide +kernel | rfl | decide
    rw [e]
    exact hq
theorem sorted_tups {l : Addr} {vs : List Value} {k : Value → List Int} {Q : Value → Shared → Prop} (hl : s.heap.IsList l vs.toArray) (hz : vs.length ≤ sizeLine) (hp : ∀ v ∈ vs, IsTupI s.heap v (k v) ∧ k v ≠ [])
    (h : ∀ (h' : Heap) (d : Addr) (out : List Value), Srtd (fun v u => HT.lexLt (k v) (k u)) out → Stb (fun v u => HT.lexLt (k v) (k u)) out vs → (∀ b o, s.heap.get? b = some o → h'.get? b = some o) → s.heap.objs.size ≤ d → (∃ n, h'.get? d = some (seqObj "list" out.toArray n)) → Q (.ref d) { s with heap := h' }) :
    wpAny (model prog w) A (call (.builtin "sorted") [.ref l]) Q E s := by
  refine sorted_ord (NtL.swo_lexL k) hl hz (fun h2 h₁ a ha kk => ?_) fun out hs hb => ?_
  · refine tups_sortable (s := { s with heap := h₁ }) (by omega) (fun v hm => ⟨(hp v hm).1.keeps fun b o e _ => (kk b o e).2, (hp v hm).2⟩) fun o e => ?_
    have e' : some o = some (seqObj "list" vs.toArray 0) := e.symm.trans ha
    cases e'
    intro c
    exact absurd (Value.type.inj c) (by decide)
  · exact h _ _ out hs hb (fun b o e => sortedAll_old e) (Nat.le_succ _) (sortedAll_at s.heap vs out.toArray)
end
end SrtM
namespace M
open PySem PySem.Spec PyProof.Rows L2
/-! ### sorted of a list of tuples of whole numbers -/
theorem lex_anti : ∀ {a b : List Int}, HT.lexLt a b = false → HT.lexLt b a = false → a = b
  | [], [], _, _ => rfl
  | [], y :: ys, h, _ => by rw [HT.lexLt_nil_cons] at h; cases h
  | x :: xs, [], _, h => by rw [HT.lexLt_nil_cons] at h; cases h
  | x :: xs, y :: ys, h1, h2 => by
    rw [HT.lexLt_cons] at h1 h2
    by_cases e : x = y
    · subst e
      rw [if_pos rfl] at h1 h2
      rw [lex_anti h1 h2]
    · rw [if_neg e] at h1
      rw [if_neg fun q => e q.symm] at h2
      have a := of_decide_eq_false h1
      have b := of_decide_eq_false h2
      omega
def sortL (xs : List (List Int)) : List (List Int) := xs.mergeSort fun a b => !HT.lexLt b a
theorem sortL_perm (xs : List (List Int)) : (sortL xs).Perm xs := List.mergeSort_perm _ _
theorem sortL_ord (xs : List (List Int)) : (sortL xs).Pairwise fun a b => HT.lexLt b a = false := by
  have := List.pairwise_mergeSort (le := fun a b => !HT.lexLt b a) (fun a b c h1 h2 => by
    have h1 : HT.lexLt b a = false := by simpa using h1
    have h2 : HT.lexLt c b = false := by simpa using h2
    simpa using NtL.lex_tr _ _ _ h1 h2) (fun a b => by
    cases e : HT.lexLt a b with
    | false => simp
    | true => rw [NtL.lex_asym _ _ e]; rfl) xs
  exact this.imp fun h => by simpa using h
theorem sortL_uniq {xs ys : List (List Int)} (p : ys.Perm xs) (h : ys.Pairwise fun a b => HT.lexLt b a = false) : ys = sortL xs :=
  List.Perm.eq_of_pairwise (fun _ _ _ _ h1 h2 => lex_anti h2 h1) h (sortL_ord xs) (p.trans (sortL_perm xs).symm)
/-- a tuple of whole numbers -/
def TInt (K : PySem.W.Frag) (H : Hp) (v : V) (ns : List Int) : Prop := ∃ t, v = .ref t ∧ SqT K H t (ns.map V.int)
def rSortTL (K : PySem.W.Frag) : List V → Hp → VK → Prop := fun vs H Q => ∃ (a : Addr) (xs : List V) (nss : List (List Int)) (R : V → List Int → Prop), vs = [V.ref a] ∧ SqL K H a xs ∧ (∀ v ns, R v ns → TInt K H v ns) ∧ Paired R xs nss ∧ (∀ ns ∈ nss, ns ≠ []) ∧
  ∀ ys p, Paired R ys (sortL nss) → H p = none → Q (.ref p) (upd H p (.lst ys))
theorem paired_mem {α β : Type} {R : α → β → Prop} : ∀ {xs : List α} {ys : List β}, Paired R xs ys → ∀ x ∈ xs, ∃ y ∈ ys, R x y
  | _, _, .nil, x, h => by simp at h
  | _, _, .cons r t, x, h => by
    rcases List.mem_cons.mp h with e | e
    · subst e; exact ⟨_, List.mem_cons_self, r⟩
    · obtain ⟨y, hy, q⟩ := paired_mem t x e
      exact ⟨y, List.mem_cons_of_mem _ hy, q⟩
theorem paired_map_eq {α β : Type} {R : α → β → Prop} {k : α → β} (u : ∀ x y, R x y → k x = y) : ∀ {xs : List α} {ys : List β}, Paired R xs ys → xs.map k = ys
  | _, _, .nil => rfl
  | _, _, .cons r t => by rw [List.map_cons, u _ _ r, paired_map_eq u t]
theorem paired_self {α β : Type} {R : α → β → Prop} {k : α → β} : ∀ {xs : List α}, (∀ x ∈ xs, R x (k x)) → Paired R xs (xs.map k)
  | [], _ => .nil
  | x :: xs, h => .cons (h x List.mem_cons_self) (paired_self fun y hy => h y (List.mem_cons_of_mem _ hy))
theorem map_int_inj {a b : List Int} (h : a.map V.int = b.map V.int) : a = b := by
  induction a generalizing b with
  | nil =>
    cases b with
    | nil => rfl
    | cons y ys => cases h
  | cons x xs ih =>
    cases b with
    | nil => cases h
    | cons y ys =>
      rw [List.map_cons, List.map_cons] at h
      obtain ⟨h1, h2⟩ := List.cons.inj h
      rw [V.int.inj h1, ih h2]
theorem cr_sortTL {X : Cx} : CallR X (.builtin "sorted") (rSortTL X.K) := by
  intro pins s σ H vs us Q I r h
  obtain ⟨a, xs, nss, R, rfl, hs, hR, hp, hne, q⟩ := h
  obtain ⟨its, rv, hl, hz⟩ := I.list hs
  obtain ⟨u, rfl, ru⟩ := vals1 r
  obtain rfl : u = Value.ref a := ru
  let k : V → List Int := fun v => @dite _ (∃ ns, TInt X.K H v ns) (Classical.propDecidable _) (fun h => Classical.choose h) (fun _ => [])
  have uk : ∀ v ns, R v ns → k v = ns := fun v ns h => by
    have ex : ∃ ns, TInt X.K H v ns := ⟨ns, hR v ns h⟩
    have e : k v = Classical.choose ex := dif_pos ex
    rw [e]
    obtain ⟨t, e1, q1⟩ := Classical.choose_spec ex
    obtain ⟨t', e2, q2⟩ := hR v ns h
    rw [e1] at e2
    cases e2
    exact map_int_inj (I.tuple_inj q1 q2)
  have hk : ∀ v ∈ xs, R v (k v) ∧ k v ≠ [] := fun v hv => by
    obtain ⟨ns, hn, r⟩ := paired_mem hp v hv
    rw [uk v ns r]
    exact ⟨r, hne ns hn⟩
  obtain ⟨e1, e2⟩ := refs_back rv fun x m => by
    obtain ⟨t, e, _⟩ := hR _ _ (hk x m).1
    exact ⟨t, e⟩
  refine SrtM.sorted_tups (k := fun u => k (backV u)) hl.isList (by rw [← rv.length]; exact hz) (fun v hv => ?_) fun h' d out h1 h2 kp hd hn => ?_
  · obtain ⟨t, rfl⟩ := e2 v hv
    have hm : V.ref t ∈ xs := by rw [e1]; exact List.mem_map.mpr ⟨_, hv, rfl⟩
    obtain ⟨t', e, ht⟩ := hR _ _ (hk _ hm).1
    cases e
    obtain ⟨its', r1, ⟨o, ho, hc, n, hd⟩, _⟩ := I.tuple ht
    exact ⟨⟨t, o, _, n, rfl, ho, hc, hd, intsAre_of r1⟩, (hk _ hm).2⟩
  · have h3 : ∀ u ∈ out, ∃ a, u = Value.ref a := fun u hu => e2 u (h2.perm.mem_iff.mp hu)
    obtain ⟨n, hn⟩ := hn
    have hb : (out.map backV).Perm xs := by
      rw [e1]
      exact h2.perm.map backV
    have hs : ((out.map backV).map k).Pairwise fun a b => HT.lexLt b a = false := by
      rw [List.map_map, List.pairwise_map]
      exact h1
    have e : (out.map backV).map k = sortL nss := sortL_uniq (by rw [← paired_map_eq uk hp]; exact hb.map k) hs
    refine ⟨.ref d, upd H d (.lst (out.map backV)), I.laid (t' := s.toks) kp hd ⟨?_, out, n, vals_back h3, hn⟩, rfl, q _ d ?_ (I.hok.fresh hd)⟩
    · rw [hb.length_eq]
      exact hz
    · rw [← e]
      exact paired_self fun v hv => (hk v (hb.mem_iff.mp hv)).1
/-- sorted(xs), xs a list of tuples of whole numbers, none of them empty -/
noncomputable def lSortT (xs : List (TupL Int)) : Res (List (TupL Int)) := clo (if (xs.all fun x => !x.l.isEmpty) = true then .ok ((sortL (xs.map TupL.l)).map TupL.mk) else .bad)
theorem paired_mapR {α β γ : Type} {R : α → β → Prop} {S : α → γ → Prop} {f : β → γ} (h : ∀ x y, R x y → S x (f y)) : ∀ {xs : List α} {ys : List β}, Paired R xs ys → Paired S xs (ys.map f)
  | _, _, .nil => .nil
  | _, _, .cons r t => .cons (h _ _ r) (paired_mapR h t)
theorem ints_rp {K : PySem.W.Frag} {I : Hp} : ∀ {vs : List V} {ns : List Int}, Paired (fun v x => Rep.rp K I v x) vs ns → vs = ns.map V.int
  | _, _, .nil => rfl
  | _, _, .cons r t => by rw [List.map_cons, ← ints_rp t]; rw [show _ = _ from r.1]; rfl
theorem rp_ints {K : PySem.W.Frag} {I : Hp} : ∀ (ns : List Int), Paired (fun v (x : Int) => Rep.rp K I v x) (ns.map V.int) ns
  | [] => .nil
  | n :: ns => .cons ⟨rfl, trivial⟩ (rp_ints ns)
section
variable {K : PySem.W.Frag} {I H : Hp} {σ ρ : List (Option V)} {Γ Γ' Θ : List Cell} {i j : Nat} {v : V} {pn : Option V} {te tl : TE} {Q : VK} {ω : Type} {P : ω → Prop} {X : Exn → Prop}
theorem sortT_of {a : Addr} {vs : List V} {xs : List (TupL Int)} {k : List (TupL Int) → Res ω} (e : I a = some (.lst vs) ∨ H a = some (.lst vs)) (s : Same I H) (p : Paired (fun v x => Rep.rp K I v x) vs xs) (h : wp ((lSortT xs).bind k) P X)
    (next : ∀ xs', wp (k xs') P X → ∀ ys p, Paired (fun v x => Rep.rp K I v x) ys xs' → H p = none → Q (.ref p) (upd H p (.lst ys))) : CbG (rSortTL K) [.ref a] H Q := by
  unfold lSortT at h
  rw [clo_eq] at h
  by_cases hne : (xs.all fun x => !x.l.isEmpty) = true
  · rw [if_pos hne] at h
    refine ⟨a, vs, xs.map TupL.l, fun v ns => Rep.rp K I v (TupL.mk ns), rfl, ?_, ?_, ?_, ?_, fun ys p hp np => ?_⟩
    · rcases e with e | e
      · exact SqL.of (s _ _ e)
      · exact SqL.of e
    · rintro v ns ⟨t, ws, e1, e2, e3⟩
      refine ⟨t, e1, ?_⟩
      rw [← ints_rp e3]
      exact same_seqT s e2
    · exact paired_mapR (f := TupL.l) (fun _ _ h => h) p
    · intro ns hn
      obtain ⟨x, hx, rfl⟩ := List.mem_map.mp hn
      have := List.all_eq_true.mp hne x hx
      intro z
      rw [z] at this
      cases this
    · exact next _ h ys p (paired_mapR (f := TupL.mk) (fun _ _ h => h) hp) np
  · rw [if_neg hne] at h
    exact h.elim
theorem st_sortTO {xs : List (TupL Int)} {k : List (TupL Int) → Res ω} (E : Env K I H σ Γ (some v :: ρ) (.im xs :: Θ)) (h : wp ((lSortT xs).bind k) P X) (next : ∀ xs' H' v, Env K I H' σ Γ (some v :: ρ) (.own xs' :: Θ) → wp (k xs') P X → Q v H') : CbG (rSortTL K) [v] H Q := by
  obtain ⟨a, vs, rfl, ha, p⟩ := E.topR
  exact sortT_of (.inl ha) E.same p h fun xs' h ys q hp np => st_newO (Env.pop E) hp (fun H' v E => next xs' H' v E h) q np
theorem st_sortTI {xs : List (TupL Int)} {k : List (TupL Int) → Res ω} (E : Env K I H σ Γ (some v :: ρ) (.im xs :: Θ)) (h : wp ((lSortT xs).bind k) P X) (next : ∀ xs' I' H' v, Env K I' H' σ Γ (some v :: ρ) (.im xs' :: Θ) → wp (k xs') P X → Q v H') : CbG (rSortTL K) [v] H Q := by
  obtain ⟨a, vs, rfl, ha, p⟩ := E.topR
  exact sortT_of (.inl ha) E.same p h fun xs' h ys q hp np => st_newI (Env.pop E) hp (fun I' H' v E => next xs' I' H' v E h) q np
/-! ### sorted of whole numbers -/
noncomputable def lSortI (xs : List Int) : Res (List Int) := .ok (xs.mergeSort fun a b => decide (a ≤ b))
theorem sortI_uniq {xs ys : List Int} (p : ys.Perm xs) (h : ys.Pairwise (· ≤ ·)) : ys = xs.mergeSort fun a b => decide (a ≤ b) := by
  have q := List.pairwise_mergeSort (le := fun a b : Int => decide (a ≤ b)) (fun a b c h1 h2 => by
    have h1 := of_decide_eq_true h1
    have h2 := of_decide_eq_true h2
    exact decide_eq_true (by omega)) (fun a b => by
    by_cases e : a ≤ b
    · rw [decide_eq_true e]; rfl
    · rw [decide_eq_false e, decide_eq_true (by omega : b ≤ a)]; rfl) xs
  exact List.Perm.eq_of_pairwise (le := (· ≤ ·)) (fun a b _ _ h1 h2 => by omega) h (q.imp fun h => of_decide_eq_true h) (p.trans (List.mergeSort_perm _ _).symm)
theorem st_sortIO {xs : List Int} {k : List Int → Res ω} (E : Env K I H σ Γ (some v :: ρ) (.im xs :: Θ)) (h : wp ((lSortI xs).bind k) P X) (next : ∀ xs' H' v, Env K I H' σ Γ (some v :: ρ) (.own xs' :: Θ) → wp (k xs') P X → Q v H') : CbG (rSortedI K) [v] H Q := by
  obtain ⟨a, vs, rfl, ha, p⟩ := E.topR
  refine ⟨a, xs, rfl, ?_, fun ns' q p1 p2 np => ?_⟩
  · rw [← ints_rp p]
    exact SqL.of (E.same _ _ ha)
  · rw [sortI_uniq p1 p2]
    exact st_newO (Env.pop E) (rp_ints _) (fun H' v E => next _ H' v E h) q np
theorem st_sortII {xs : List Int} {k : List Int → Res ω} (E : Env K I H σ Γ (some v :: ρ) (.im xs :: Θ)) (h : wp ((lSortI xs).bind k) P X) (next : ∀ xs' I' H' v, Env K I' H' σ Γ (some v :: ρ) (.im xs' :: Θ) → wp (k xs') P X → Q v H') : CbG (rSortedI K) [v] H Q := by
  obtain ⟨a, vs, rfl, ha, p⟩ := E.topR
  refine ⟨a, xs, rfl, ?_, fun ns' q p1 p2 np => ?_⟩
  · rw [← ints_rp p]
    exact SqL.of (E.same _ _ ha)
  · rw [sortI_uniq p1 p2]
    exact st_newI (Env.pop E) (rp_ints _) (fun I' H' v E => next _ I' H' v E h) q np
end
end M
namespace M
open PySem PySem.Spec PyProof.Rows L2
section
variable {K : PySem.W.Frag} {I H : Hp} {σ ρ : List (Option V)} {Γ Γ' Θ : List Cell} {i j : Nat} {v : V} {pn : Option V} {te tl : TE} {Q : VK} {ω : Type} {P : ω → Prop} {X : Exn → Prop}
/-! ### tuples: shown, taken apart -/
def TpG (vs : List V) (H : Hp) (Q : VK) : Prop := vs.length ≤ sizeLine ∧ ∀ p, H p = none → Q (.ref p) (upd H p (.tup vs))
theorem uTpl {t : TA} (h : t σ H fun xs H1 => TpG xs H1 Q) : tTup t σ H Q := h
theorem st_tupL {α : Type} [Rep α] (vs : List V) (xs : List α) (hl : vs.length = xs.length) (hz : vs.length ≤ line) (E : Env K I H σ Γ ((vs.map some).reverse ++ ρ) ((xs.map Cell.im).reverse ++ Θ))
    (next : ∀ I' H' v, Env K I' H' σ Γ (some v :: ρ) (.im (TupL.mk xs) :: Θ) → Q v H') : TpG vs H Q := by
  refine ⟨line_of hz, fun p hp => ?_⟩
  obtain ⟨pr, E2⟩ := E.collect hl
  exact next _ _ _ ((E2.grow (Grow.newI (u := .tup vs) E2.same hp)).push ⟨p, vs, rfl, .inl (.inl upd_same), Paired.monoR (fun _ _ z => Rep.mono (fun a o e => by rw [upd_ne (ne_of_none e (E2.2.2.none_of hp))]; exact e) z) pr⟩)
theorem st_tup2 {α β : Type} [Rep α] [Rep β] {x : α} {y : β} {v1 v2 : V} (E : Env K I H σ Γ (some v2 :: some v1 :: ρ) (.im y :: .im x :: Θ)) (next : ∀ I' H' v, Env K I' H' σ Γ (some v :: ρ) (.im (x, y) :: Θ) → Q v H') : TpG [v1, v2] H Q := by
  refine ⟨line_of (by decide : (2 : Nat) ≤ line), fun p hp => ?_⟩
  have r2 := E.topR
  have r1 := E.pop.topR
  have E2 := E.pop.pop
  have m : ∀ {γ : Type} [Rep γ] {v : V} {z : γ}, Rep.rp K I v z → Rep.rp K (upd I p (.tup [v1, v2])) v z := fun q => Rep.mono (fun a o e => by rw [upd_ne (ne_of_none e (E2.2.2.none_of hp))]; exact e) q
  exact next _ _ _ ((E2.grow (Grow.newI (u := .tup [v1, v2]) E2.same hp)).push ⟨p, v1, v2, rfl, .inl (.inl upd_same), m r1, m r2⟩)
end
end M
namespace M
open PySem PySem.Spec PyProof.Rows L2
section
variable {K : PySem.W.Frag} {I H : Hp} {σ ρ : List (Option V)} {Γ Γ' Θ : List Cell} {i j : Nat} {v : V} {pn : Option V} {te tl : TE} {Q : VK} {ω : Type} {P : ω → Prop} {X : Exn → Prop}
theorem uTupT {n : Nat} {t : TGs} {Q : L2.St → Hp → Prop} (h : ∃ a xs, v = .ref a ∧ SqT K H a xs ∧ xs.length = n ∧ t xs σ H Q) : gTup K n t v σ H Q := h
theorem uGC {t : TG} {u : TGs} {r : List V} {Q : L2.St → Hp → Prop} (h : t v σ H fun σ' H' => u r σ' H' Q) : gCons t u (v :: r) σ H Q := ⟨v, r, rfl, h⟩
theorem uGN {Q : L2.St → Hp → Prop} (h : Q σ H) : gNil [] σ H Q := ⟨rfl, h⟩
def unp2 {α : Type} (x : TupL α) : Res (α × α) := match x.l with | [a, b] => .ok (a, b) | _ => .bad
def unp3 {α : Type} (x : TupL α) : Res (α × α × α) := match x.l with | [a, b, c] => .ok (a, b, c) | _ => .bad
theorem st_unp2 {α : Type} [Rep α] {t : TGs} {x : TupL α} {k : α × α → Res ω} {Q : L2.St → Hp → Prop} (E : Env K I H σ Γ (some v :: ρ) (.im x :: Θ)) (h : wp ((unp2 x).bind k) P X)
    (next : ∀ a b va vb, Env K I H σ Γ (some va :: some vb :: ρ) (.im a :: .im b :: Θ) → wp (k (a, b)) P X → t [va, vb] σ H Q) : gTup K 2 t v σ H Q := by
  obtain ⟨p, vs, e, hq, pr⟩ := E.topR
  unfold unp2 at h
  obtain ⟨l⟩ := x
  dsimp only at pr h
  cases pr with
  | nil => exact h.elim
  | cons r1 pr =>
    cases pr with
    | nil => exact h.elim
    | cons r2 pr =>
      cases pr with
      | nil => exact ⟨p, _, e, same_seqT E.same hq, rfl, next _ _ _ _ ((E.pop.push r2).push r1) h⟩
      | cons r3 pr => exact h.elim
theorem st_unp3 {α : Type} [Rep α] {t : TGs} {x : TupL α} {k : α × α × α → Res ω} {Q : L2.St → Hp → Prop} (E : Env K I H σ Γ (some v :: ρ) (.im x :: Θ)) (h : wp ((unp3 x).bind k) P X)
    (next : ∀ a b c va vb vc, Env K I H σ Γ (some va :: some vb :: some vc :: ρ) (.im a :: .im b :: .im c :: Θ) → wp (k (a, b, c)) P X → t [va, vb, vc] σ H Q) : gTup K 3 t v σ H Q := by
  obtain ⟨p, vs, e, hq, pr⟩ := E.topR
  unfold unp3 at h
  obtain ⟨l⟩ := x
  dsimp only at pr h
  cases pr with
  | nil => exact h.elim
  | cons r1 pr =>
    cases pr with
    | nil => exact h.elim
    | cons r2 pr =>
      cases pr with
      | nil => exact h.elim
      | cons r3 pr =>
        cases pr with
        | nil => exact ⟨p, _, e, same_seqT E.same hq, rfl, next _ _ _ _ _ _ (((E.pop.push r3).push r2).push r1) h⟩
        | cons r4 pr => exact h.elim
theorem st_unpP {α β : Type} [Rep α] [Rep β] {t : TGs} {x : α × β} {Q : L2.St → Hp → Prop} (E : Env K I H σ Γ (some v :: ρ) (.im x :: Θ))
    (next : ∀ va vb, Env K I H σ Γ (some va :: some vb :: ρ) (.im x.1 :: .im x.2 :: Θ) → t [va, vb] σ H Q) : gTup K 2 t v σ H Q := by
  obtain ⟨p, v1, v2, e, hq, r1, r2⟩ := E.topR
  exact ⟨p, _, e, same_seqT E.same hq, rfl, next _ _ ((E.pop.push r2).push r1)⟩
end
end M
namespace M
open PySem PySem.Spec PyProof.Rows L2
section
variable {K : PySem.W.Frag} {I H : Hp} {σ ρ : List (Option V)} {Γ Γ' Θ : List Cell} {i j : Nat} {v : V} {pn : Option V} {te tl : TE} {Q : VK} {ω : Type} {P : ω → Prop} {X : Exn → Prop}
/-- t[i], both on the stack -/
theorem st_ixTup {α : Type} [Rep α] {v1 v2 : V} {x : TupL α} {i : Int} {k : α → Res ω} (E : Env K I H σ Γ (some v2 :: some v1 :: ρ) (.im i :: .im x :: Θ)) (h : wp ((lGet x.l i).bind k) P X)
    (next : ∀ y v, Env K I H σ Γ (some v :: ρ) (.im y :: Θ) → wp (k y) P X → Q v H) : OpG (rIxT K) v1 v2 H Q := by
  obtain ⟨e2, _⟩ := E.topS
  subst e2
  obtain ⟨a, vs, e, ha, p⟩ := E.pop.topR
  subst e
  unfold lGet at h
  cases e : atI x.l i with
  | none => rw [e] at h; exact h.elim
  | some y =>
    rw [e] at h
    obtain ⟨w, e2, r⟩ := atI_paired p e
    exact ⟨a, vs, i, w, rfl, rfl, same_seqT E.same ha, e2, next y w (E.pop.pop.push r) h⟩
theorem st_lenTup {α : Type} [Rep α] {x : TupL α} (E : Env K I H σ Γ (some v :: ρ) (.im x :: Θ)) (next : ∀ v, Env K I H σ Γ (some v :: ρ) (.im ((x.l.length : Nat) : Int) :: Θ) → Q v H) : CbG (rLen2 K) [v] H Q := by
  obtain ⟨a, vs, e, ha, p⟩ := E.topR
  subst e
  have hl : vs.length = x.l.length := Paired.length p
  exact ⟨a, vs, rfl, .inr (same_seqT E.same ha), next _ (E.pop.pushS (a := ((vs.length : Nat) : Int)) trivial |> fun z => by rw [← hl]; exact z)⟩
theorem hf_ixT {α : Type} [Sca α] {x : TupL α} {ti : TE} {m : Res Int} (hΓ : Γ[j]? = some (.im x)) (hi : HF K ti Γ m) : HF K (tOp (rIxT K) (tVar j) ti) Γ (m.bind fun i => lGet x.l i) := .mk fun X Q E q => by
  obtain ⟨v, hs, a, vs, e, ha, p⟩ := E.get hΓ
  subst e
  refine ⟨_, hs, hi.run X _ E (wpb q fun i q _ => ?_)⟩
  unfold lGet at q
  cases e : atI x.l i with
  | none => rw [e] at q; exact q.elim
  | some y =>
    rw [e] at q
    obtain ⟨w, e2, r⟩ := atI_paired p e
    refine ⟨a, vs, i, w, rfl, rfl, same_seqT E.same ha, e2, ?_⟩
    rw [r.1]
    exact q r.2
theorem hf_ixTp {α : Type} [Sca α] {x : TupL α} {ti : TE} {i : Int} (hΓ : Γ[j]? = some (.im x)) (hi : HF K ti Γ (.ok i)) : HF K (tOp (rIxT K) (tVar j) ti) Γ (lGet x.l i) := hf_ixT hΓ hi
theorem tyx_tup {a : Addr} {xs : List V} (h : SqT K H a xs) : TyX K H (.ref a) (.type "tuple") := by
  rcases h with (h | ⟨o, h⟩) | ⟨o, its, n, hk, hc, _⟩
  · exact .base (.tup h)
  · exact .fTuple h
  · exact .kTuple hk hc
theorem hf_isTupL {α : Type} [Rep α] {T : String} {b : Bool} {xs : TupL α} (hΓ : Γ[i]? = some (.im xs)) (e : ∀ K, PySem.W.kitOne K (.type "tuple") (.type T) = some b) : HF K (tIsi K i T) Γ (.ok b) := .mk fun X Q E q => by
  obtain ⟨v, hs, a, vs, e1, ha, _⟩ := E.get hΓ
  subst e1
  exact ⟨_, hs, _, _, _, _, b, rfl, .ty T, tyx_tup (same_seqT E.same ha), e K, q trivial⟩
theorem hf_isTup2 {α β : Type} [Rep α] [Rep β] {T : String} {b : Bool} {xs : α × β} (hΓ : Γ[i]? = some (.im xs)) (e : ∀ K, PySem.W.kitOne K (.type "tuple") (.type T) = some b) : HF K (tIsi K i T) Γ (.ok b) := .mk fun X Q E q => by
  obtain ⟨v, hs, a, v1, v2, e1, ha, _⟩ := E.get hΓ
  subst e1
  exact ⟨_, hs, _, _, _, _, b, rfl, .ty T, tyx_tup (same_seqT E.same ha), e K, q trivial⟩
theorem hf_isTup3 {α β γ : Type} [Rep α] [Rep β] [Rep γ] {T : String} {b : Bool} {xs : T3 α β γ} (hΓ : Γ[i]? = some (.im xs)) (e : ∀ K, PySem.W.kitOne K (.type "tuple") (.type T) = some b) : HF K (tIsi K i T) Γ (.ok b) := .mk fun X Q E q => by
  obtain ⟨v, hs, a, v1, v2, v3, e1, ha, _⟩ := E.get hΓ
  subst e1
  exact ⟨_, hs, _, _, _, _, b, rfl, .ty T, tyx_tup (same_seqT E.same ha), e K, q trivial⟩
/-! ### a text's find from a place on -/
noncomputable def xFind (a b : Tx) (i : Int) : Int := Txt.find3 (mkS a) (mkS b) i
def rFind3 : V → List V → Hp → VK → Prop := fun x xs H Q => ∃ (a b : Str) (i : Int), x = .str a ∧ xs = [.str b, .int i] ∧ Q (.int (Txt.find3 a b i)) H
theorem hf_find3 {ta tb tc : TE} {m1 m2 : Res Tx} {m3 : Res Int} (h1 : HF K ta Γ m1) (h2 : HF K tb Γ m2) (h3 : HF K tc Γ m3) : HF K (tBM K "str" rFind3 ta (tCons tb (tCons tc tNil))) Γ (m1.bind fun a => m2.bind fun b => m3.bind fun i => .ok (xFind a b i)) := .mk fun X Q E q =>
  h1.run X _ E (wpb q fun a q oa => ⟨rfl, h2.run X _ E (wpb q fun b q ob => h3.run X _ E (wpb q fun i q oi => ⟨_, _, i, rfl, rfl, q trivial⟩))⟩)
/-! ### if-else with calls, as a value -/
theorem uTif {tt : TT} {ta tb : TE} (h : tt σ H fun c H1 => if c = true then ta σ H1 Q else tb σ H1 Q) : tIf tt ta tb σ H Q := h
theorem st_itex {α : Type} {b : Bool} {ta tb : TE} {mA mB : Res α} {k : α → Res ω} (oc : α → Cell) (E : Env K I H σ Γ ρ Θ) (h : wp ((if b = true then mA else mB).bind k) P X)
    (h1 : wp mA (fun a => ∀ I' H' v, Env K I' H' σ Γ (some v :: ρ) (oc a :: Θ) → Q v H') X → ta σ H Q) (h2 : wp mB (fun a => ∀ I' H' v, Env K I' H' σ Γ (some v :: ρ) (oc a :: Θ) → Q v H') X → tb σ H Q)
    (next : ∀ a I' H' v, Env K I' H' σ Γ (some v :: ρ) (oc a :: Θ) → wp (k a) P X → Q v H') : if b = true then ta σ H Q else tb σ H Q := by
  cases b with
  | true => exact h1 (wpb h fun a h I' H' v E => next a I' H' v E h)
  | false => exact h2 (wpb h fun a h I' H' v E => next a I' H' v E h)
end
end M
namespace M
open PySem PySem.Spec PyProof.Rows L2
/-! ### calls with defaults -/
section
variable {X : Cx} {CX : CXT} {k : Nat} {f : Addr} {fd : FuncData} {ps : List Str} {sp : Sp} {E : L2.St → XK} {x : Str} {p pos : Pos} {e : Expr} {es : List Expr} {t : TA} {ds : List Value} {dvs : List V}
def tCallD (sp : Sp) (dvs : List V) (E : L2.St → XK) (t : TA) : TE := fun σ H Q => t σ H fun vs H1 => sp (vs ++ dvs) H1 Q (E σ)
theorem run_fnD {pins : List (Addr × Obj)} {σ : L2.St} {H : Hp} {s : Shared} {Q : VK} {us : List Value} {vs : List V} (F : FnOk X.prog X.w X.K X.mg X.base CX k f fd ps sp) (hr : Room k X.A) (hb : Binds X.K fd ps ds) (rd : Vals dvs ds) (hx : PassesAt CX X σ (E σ))
    (I : Inv X pins σ H s) (r : Vals vs us) (h : sp (vs ++ dvs) H Q (E σ)) : wpAny (model X.prog X.w) X.A (call (.ref f) us) (EP X pins σ Q) X.xe s := by
  have r2 := r.append rd
  have hl : (us ++ ds).length = ps.length := by rw [← r2.length]; exact F.len _ _ _ _ h
  have b := hb s us I.kIn hl
  refine wpAny_call (codeAny_mono (F.run X.A X.stack s H ⟨us, []⟩ (us ++ ds) (vs ++ dvs) Q (E σ) hr I.env0 b r2 h) fun r s' hq => ?_)
  cases r with
  | error e => exact hx pins H s e s' I hq
  | ok fl =>
    cases fl with
    | ret u => exact I.after hq
    | next => exact False.elim hq
    | brk => exact False.elim hq
    | cont => exact False.elim hq
theorem pe_callD (F : FnOk X.prog X.w X.K X.mg X.base CX k f fd ps sp) (hr : Room k X.A) (hg : Gl X x) (hm : X.mg x = some (.ref f)) (hk : PySem.W.keepIn X.K (.ref f) = true) (hb : Binds X.K fd ps ds) (rd : Vals dvs ds) (hx : ∀ σ, PassesAt CX X σ (E σ))
    (ha : PA X (e :: es) t) (hdb : (x == ("__debug__" : Str)) = false := by decide) (he : starEach (e :: es) X.env = (false, eval e X.env) :: starEach es X.env := by rfl) (hpl : (backTo pos (starEach es X.env)).any (·.1) = false := by rfl) :
    PE X (.Call (.Name x p) (e :: es) [] pos) (tCallD sp dvs E t) := by
  refine ⟨fun pins s σ H Q I h => ?_⟩
  refine wpAny_Call_Name_kw (ld_glob I hg hm ?_ hdb)
  refine PySem.W.callWith_K (h₀ := X.base) I.ok.mod.kin hk (thn (ha.run pos pins s σ H _ I h) fun us s1 ⟨vs, H1, I1, r, q⟩ => ⟨I1.kIn, ?_⟩) he hpl
  exact run_fnD F hr hb rd (hx σ) I1 r q
theorem uCallD {σ : L2.St} {H : Hp} {Q : VK} (h : t σ H fun vs H1 => sp (vs ++ dvs) H1 Q (E σ)) : tCallD sp dvs E t σ H Q := h
end
/-- keyword-only parameters by their defaults, no other defaults -/
theorem binds_kd {K : PySem.W.Frag} {x qual : Str} {st : Stmt} {f : Addr} {fd : FuncData} {ps : List Str} {D : Addr} (kws : List (Str × V)) (hk : kws ≠ []) (n : Nat) (hn : n + kws.length = ps.length)
    (hf : ∃ (oc : Value) (od : Option Addr) (doc pm : Value) (an : Option Addr) (cdv ct : Value) (osl : Array (Option Value)), fd = PySem.W.fnOf x qual (defArgs st) (defBody st) (defScope st) .none (.ref D) doc pm an cdv ct ∧ K.lookup f = some ⟨oc, od, .func fd, osl⟩ ∧ PySem.W.codeIn K cdv qual = true)
    (kp : PySem.W.keepIn K (.ref f) = true) (hq : ∀ q ∈ kws, ∃ u, PySem.W.nsIn K D q.1 = some (some u) ∧ RelV q.2 u)
    (h : ∀ (D : Addr) (doc pm : Value) (an : Option Addr) (cdv ct : Value) (us ks : List Value), us.length = n → ks.length = kws.length →
      KwChain D ((kws.map (·.1)).zip ks) (bindArgs (PySem.W.fnOf x qual (defArgs st) (defBody st) (defScope st) .none (.ref D) doc pm an cdv ct) ⟨us, []⟩) (ps.zip (us ++ ks))) : ∃ ds, Vals (kws.map (·.2)) ds ∧ Binds K fd ps ds := by
  obtain ⟨oc, od, doc, pm, an, cdv, ct, osl, e1, e2, e3⟩ := hf
  have F : FunD K x qual (defArgs st) (defBody st) (defScope st) [] kws f fd := ⟨⟨oc, od, .none, .ref D, doc, pm, an, cdv, ct, osl, e1, e2, e3, .inl ⟨rfl, rfl⟩, .inr ⟨D, rfl, hq⟩⟩, kp⟩
  exact F.binds0 n hk hn h
/-! ### ord, in, tuple, list(range(a, b)) -/
def xOrd (w : Tx) : Res Int := match w with | [c] => .ok (c : Int) | _ => .bad
theorem hc_ord {x : Tx} : HC1 (fun xs H Q => ∃ z : Str, xs = [V.str z] ∧ z.length = 1 ∧ Q (.int (z.cps.getD 0 0 : Nat)) H) x (xOrd x) := .mk fun X Q ox q => by
  unfold xOrd at q
  match x, q with
  | [c], q => exact ⟨mkS [c], rfl, rfl, q trivial⟩
  | [], q => exact q.elim
  | _ :: _ :: _, q => exact q.elim
section
variable {K : PySem.W.Frag} {I H : Hp} {σ ρ : List (Option V)} {Γ Γ' Θ : List Cell} {i j : Nat} {v : V} {pn : Option V} {te tl : TE} {Q : VK} {ω : Type} {P : ω → Prop} {X : Exn → Prop}
theorem inV_ints (x : Int) (ns : List Int) : inV (.int x) (ns.map V.int) = decide (x ∈ ns) := by
  unfold inV
  induction ns with
  | nil => rfl
  | cons n ns ih =>
    rw [List.map_cons, List.any_cons, ih]
    have e : eqV (.int n) (.int x) = decide (n = x) := by
      show (n == x) = _
      by_cases q : n = x
      · subst q; simp
      · simp [q]
    rw [e]
    by_cases q : n = x
    · subst q; simp
    · have : ¬ x = n := fun z => q z.symm
      simp [q, this]
theorem flat_ints (ns : List Int) : (ns.map V.int).all flatV = true := by
  rw [List.all_eq_true]
  intro x hx
  obtain ⟨n, _, rfl⟩ := List.mem_map.mp hx
  rfl
theorem hf_in_of {xs : List Int} {m : Res Int} (hv : ∀ {I H : Hp} {σ ρ : List (Option V)} {Θ : List Cell}, Env K I H σ Γ ρ Θ → ∃ a vs, σ[j]? = some (some (.ref a)) ∧ H a = some (.lst vs) ∧ Paired (fun v x => Rep.rp K I v x) vs xs) (ht : HF K te Γ m) :
    HF K (tOp (rIn K false) te (tVar j)) Γ (m.bind fun x => .ok (decide (x ∈ xs))) := .mk fun X Q E q => ht.run X _ E (wpb q fun x q _ => by
  obtain ⟨a, vs, hs, ha, p⟩ := hv E
  have e := ints_rp p
  subst e
  refine ⟨_, hs, a, _, rfl, .inl (SqL.of ha), rfl, flat_ints _, ?_⟩
  show Q (.bl (inV (.int x) (xs.map V.int))) _
  rw [inV_ints]
  exact q trivial)
theorem hf_inL {xs : List Int} {m : Res Int} (hΓ : Γ[j]? = some (.im xs)) (ht : HF K te Γ m) : HF K (tOp (rIn K false) te (tVar j)) Γ (m.bind fun x => .ok (decide (x ∈ xs))) := hf_in_of (fun E => E.listAt hΓ) ht
theorem hf_inO {xs : List Int} {m : Res Int} (hΓ : Γ[j]? = some (.own xs pn)) (ht : HF K te Γ m) : HF K (tOp (rIn K false) te (tVar j)) Γ (m.bind fun x => .ok (decide (x ∈ xs))) := hf_in_of (fun E => E.ownAt' hΓ) ht
abbrev rTupOf (K : PySem.W.Frag) : List V → Hp → VK → Prop := fun xs H Q => ∃ p ys, xs = [.ref p] ∧ ((SqL K H p ys ∧ ∀ l, H l = none → Q (.ref l) (upd H l (.tup ys))) ∨ (SqT K H p ys ∧ Q (.ref p) H))
theorem st_tupleOf {α : Type} [Rep α] {xs : List α} (E : Env K I H σ Γ (some v :: ρ) (.im xs :: Θ)) (next : ∀ I' H' v, Env K I' H' σ Γ (some v :: ρ) (.im (TupL.mk xs) :: Θ) → Q v H') : CbG (rTupOf K) [v] H Q := by
  obtain ⟨a, vs, rfl, ha, pr⟩ := E.topR
  refine ⟨a, vs, rfl, .inl ⟨SqL.of (E.same _ _ ha), fun p hp => ?_⟩⟩
  have E2 := E.pop
  exact next _ _ _ ((E2.grow (Grow.newI (u := .tup vs) E2.same hp)).push ⟨p, vs, rfl, .inl (.inl upd_same), Paired.monoR (fun _ _ z => Rep.mono (fun a o e => by rw [upd_ne (ne_of_none e (E2.2.2.none_of hp))]; exact e) z) pr⟩)
theorem st_tupleOfT {α : Type} [Rep α] {xs : TupL α} (E : Env K I H σ Γ (some v :: ρ) (.im xs :: Θ)) (next : ∀ v, Env K I H σ Γ (some v :: ρ) (.im xs :: Θ) → Q v H) : CbG (rTupOf K) [v] H Q := by
  obtain ⟨a, vs, rfl, ha, pr⟩ := E.topR
  exact ⟨a, vs, rfl, .inr ⟨same_seqT E.same ha, next _ E⟩⟩
noncomputable def rngL2 (a b : Int) : Res (List Int) := clo (if -1000000 ≤ a ∧ a ≤ 1000000 ∧ -1000000 ≤ b ∧ b ≤ 1000000 then .ok (rng a b) else .bad)
theorem lstRg2_of {ta tb : TE} {m1 m2 : Res Int} {k : List Int → Res ω} (E : Env K I H σ Γ ρ Θ) (h1 : HF K ta Γ m1) (h2 : HF K tb Γ m2) (h : wp (m1.bind fun a => m2.bind fun b => (rngL2 a b).bind k) P X)
    (next : ∀ a b : Int, wp (k (rng a b)) P X → ∀ p, H p = none → Q (.ref p) (upd H p (.lst ((rng a b).map V.int)))) : tLstRg (tRg2 ta tb) σ H Q :=
  h1.run X _ E (wpb h fun a h _ => h2.run X _ E (wpb h fun b h _ => by
    unfold rngL2 at h
    rw [clo_eq] at h
    by_cases hr : -1000000 ≤ a ∧ a ≤ 1000000 ∧ -1000000 ≤ b ∧ b ≤ 1000000
    · rw [if_pos hr] at h
      exact ⟨a, b, rfl, rfl, by unfold L2.RgOk; omega, by rw [rgV_rng]; exact next a b h⟩
    · rw [if_neg hr] at h
      exact h.elim))
theorem st_lstRg2I {ta tb : TE} {m1 m2 : Res Int} {k : List Int → Res ω} (E : Env K I H σ Γ ρ Θ) (h1 : HF K ta Γ m1) (h2 : HF K tb Γ m2) (h : wp (m1.bind fun a => m2.bind fun b => (rngL2 a b).bind k) P X) (next : ∀ xs I' H' v, Env K I' H' σ Γ (some v :: ρ) (.im xs :: Θ) → wp (k xs) P X → Q v H') : tLstRg (tRg2 ta tb) σ H Q :=
  lstRg2_of E h1 h2 h fun a b h => st_newI E (rp_ints _) fun I' H' v E => next _ I' H' v E h
theorem st_lstRg2O {ta tb : TE} {m1 m2 : Res Int} {k : List Int → Res ω} (E : Env K I H σ Γ ρ Θ) (h1 : HF K ta Γ m1) (h2 : HF K tb Γ m2) (h : wp (m1.bind fun a => m2.bind fun b => (rngL2 a b).bind k) P X) (next : ∀ xs H' v, Env K I H' σ Γ (some v :: ρ) (.own xs :: Θ) → wp (k xs) P X → Q v H') : tLstRg (tRg2 ta tb) σ H Q :=
  lstRg2_of E h1 h2 h fun a b h => st_newO E (rp_ints _) fun H' v E => next _ H' v E h
end
end M
/-! ### enumerate of a tuple -/
namespace EnT
open PySem PySem.Calls PyProof.Rows
set_option maxHeartbeats 1000000 in
theorem meets_enumerate_new1 {v : Value} {o : Obj} {H : Heap → Prop} (B : Begins v o H) :
    Meets (Builtin.«enumerate.__new__» ⟨[.type "enumerate", v], []⟩) (fun _ R s => H s.heap ∧
      R (.ok (.ret (.ref (s.heap.push o).objs.size))) { s with heap := (s.heap.push o).push { cls := .type "enumerate", data := .fields #[.none, .bool false, .ref s.heap.objs.size, rawInt 0, .none, .none] } }) :=
  .of_wp fun prog w A R s h => by
    obtain ⟨hp, g, d, tk, os⟩ := s; obtain ⟨h1, h⟩ := h
    have hsub := sub_enumerate
    have q1 : ∀ {A' : Around} {E : Value → Shared → Prop} {Q : Value → Shared → Prop}, Q (.ref hp.objs.size) ⟨hp.push o, g, d, tk, os⟩ → wpAny (model prog w) A' (pyIter v) Q E ⟨hp, g, d, tk, os⟩ :=
      fun q => B.iter prog w _ _ ⟨hp, g, d, tk, os⟩ _ h1 q
    wp_walk using q1
    refine wpAny_stack_any fun st => wpAny_pure ?_
    split
    · rename_i c _ _ _ _ _
      cases (c == Value.type "enumerate")
      · wp_walk using q1
        exact ⟨_, rfl, h⟩
      · wp_walk using q1
        exact ⟨_, rfl, h⟩
    · wp_walk using q1
      exact ⟨_, rfl, h⟩
section
variable {prog : Program} {w : World} {A : Around} {E : Value → Shared → Prop} {s : Shared}
theorem call_enumerate_tuple {l : Addr} {items : Array Value} {Q : Value → Shared → Prop} (hL : s.heap.IsTuple l items)
    (h : ∀ h', IsEnum h' (s.heap.objs.size + 1) s.heap.objs.size 0 .none → h'.IsTupleIter s.heap.objs.size l 0 → h'.objs.size = s.heap.objs.size + 2 →
      (∀ b o, s.heap.get? b = some o → h'.get? b = some o) → Q (.ref (s.heap.objs.size + 1)) { s with heap := h' }) :
    wpAny (model prog w) A (call (.type "enumerate") [.ref l]) Q E s := by
  refine callType_new F.called_enumerate (by decide) (F.typeCall_enumerate_1 _) (F.newCall_enumerate_1 _) (fun obj => F.args_object_init_2 obj _) F.entry_enumerate_new
    (meets_enumerate_new1 (begins_tuple l items)) ⟨hL, ?_⟩
  have hz : (s.heap.push { cls := .type "tuple_iterator", data := .fields #[.ref l, .int 0 0] }).objs.size = s.heap.objs.size + 1 := Heap.size_push ..
  show _ ∧ _
  rw [hz]
  have he : IsEnum ((s.heap.push { cls := .type "tuple_iterator", data := .fields #[.ref l, .int 0 0] }).push
      { cls := .type "enumerate", data := .fields #[.none, .bool false, .ref s.heap.objs.size, rawInt 0, .none, .none] }) (s.heap.objs.size + 1) s.heap.objs.size 0 .none := by
    have := Heap.get?_push_size (s.heap.push { cls := .type "tuple_iterator", data := .fields #[.ref l, .int 0 0] })
      (o := { cls := .type "enumerate", data := .fields #[.none, .bool false, .ref s.heap.objs.size, rawInt 0, .none, .none] }) rfl
    rw [hz] at this; exact this
  refine ⟨⟨_, he, rfl⟩, h _ he ⟨_, Heap.get?_push_of_some _ (Heap.get?_push_size _ rfl), rfl, rfl⟩ (by rw [Heap.size_push, hz]) fun b o x => Heap.get?_push_of_some _ (Heap.get?_push_of_some _ x)⟩
theorem pyNext_enum_endT {e it t : Addr} {i : Nat} {k : Int} {items : Array Value} {old : Value} {Q : Option Value → Shared → Prop} (hh : A.handled = none)
    (he : IsEnum s.heap e it k old) (hit : s.heap.IsTupleIter it t i) (ht : s.heap.IsTuple t items) (hx : items[i]? = none)
    (hQ : ∀ h', Heap.ExtBut it s.heap h' → Q none { s with heap := h' }) : wpAny (model prog w) A (pyNext (.ref e)) Q E s := by
  have hT : s.TypeIs (.ref e) "enumerate" := ⟨_, he, rfl⟩
  unfold pyNext
  refine wpAny_bind (wpAny_attempt (wpAny_callSpecial?_slot (name := Str.ofString "__next__") hT F.slot_enumerate_next
    (wpAny_call_entry F.slot_enumerate_next hT F.entry_enumerate_next ?_ (F.args_enumerate_next_1 _))))
  show wpAny _ _ (field (.ref e) 2 >>= _) _ _ _
  refine wpAny_bind (wpAny_field he rfl (x := .ref it) rfl ?_)
  refine wpAny_bind (wpAny_nextOf_tuple_end hh hit ht hx fun h' x he' hx' => ?_)
  obtain ⟨o, ho, hc⟩ := hx'
  refine wpAny_bind (wpAny_isInstance (T := "StopIteration") (b := true) ⟨o, ho, hc⟩ isSubtype_stop ?_)
  exact wpAny_pure (hQ _ he')
end
end EnT
namespace L2
open PySem PySem.Spec PyProof.Rows EnT
def IteT (K : PySem.W.Frag) (a : Addr) : It :=
  ⟨fun i H => ∃ (xs : List V) (x : V), SqT K H a xs ∧ xs[i]? = some x, fun i H v H' => ∃ T x, v = .ref T ∧ H T = none ∧ H' = upd H T (.tup [.int (i : Nat), x]) ∧ ∀ xs, SqT K H a xs → xs[i]? = some x, fun i H => ∃ xs : List V, SqT K H a xs ∧ xs.length ≤ i⟩
theorem turn_enumT {P : Program} {w : World} {K : PySem.W.Frag} {elts : List Expr} {kk : Nat} {tpos : Pos} (a e it : Addr) :
    Turn P w K (.Tuple elts kk tpos) (IteT K a) [e, it] e (fun i h => (∃ old, IsEnum h e it ((i : Nat) : Int) old) ∧ h.IsTupleIter it a i ∧ e ≠ it ∧ e ≠ a ∧ a ≠ it) where
  mem := by simp
  obj := fun i h st b hb => by
    obtain ⟨⟨old, he⟩, ⟨o, ho, hc, hd⟩, _⟩ := st
    have e' : b = e ∨ b = it := by simpa using hb
    rcases e' with z | z
    · rw [z]; exact ⟨_, he, fun v q => nomatch q⟩
    · rw [z]; exact ⟨o, ho, fun v q => by rw [hd] at q; cases q⟩
  keep := fun i h h' st k => let ⟨⟨old, he⟩, hi, hne⟩ := st; ⟨⟨old, k e (by simp) _ he⟩, hi.at fun o q => k it (by simp) o q, hne⟩
  item := by
    intro X hP hw hK hc i pins s σ H E I hf st hg
    subst hP hw hK
    obtain ⟨⟨old, he⟩, hit, hne, hea, hai⟩ := st
    obtain ⟨xs, x, hq, hx⟩ := hg
    obtain ⟨its, rv, p, hz⟩ := I.tuple hq
    obtain ⟨u, hu, ru⟩ := rv.get hx
    have hel : e < s.heap.objs.size := Heap.lt_size he
    have hil : it < s.heap.objs.size := by obtain ⟨_, q, _⟩ := hit; exact Heap.lt_size q
    have p' : s.heap.IsTuple a its.toArray := p
    have hlt : i < its.toArray.size := by
      have := (List.getElem?_eq_some_iff.mp hu).1
      simpa using this
    refine wpAny_pyNext_enum_itemD (Draws.tuple (A := X.A.in1) (by first | exact I.ok.hd hc | rfl) it a hai its.toArray) he ⟨hit, p'⟩ hlt hne (by simp [hne, hea]) fun x' h' tk hx' ho hst' hT hsz hk => ?_
    have ex : x' = u := by
      have : its.toArray[i]? = some x' := hx'
      rw [show its.toArray[i]? = some u by simpa using hu] at this
      exact (Option.some.inj this).symm
    subst ex
    refine ⟨_, rfl, wpAny_letOwnedTupleGo_enum (s := { s with heap := h', toks := tk + 1 }) ho fun h'' he' sb => ?_⟩
    have hT2 : h''.get? s.heap.objs.size = some { cls := .type "tuple", data := .seq #[.int i tk, x'] } := (sb.2 _ (Nat.ne_of_gt hel)).trans hT
    have new : ObjOk X.prog X.w (upd H s.heap.objs.size (.tup [.int (i : Nat), x])) h'' s.heap.objs.size (.tup [.int (i : Nat), x]) :=
      ⟨by show 2 ≤ sizeLine; decide, [.int i tk, x'], .cons ⟨_, rfl⟩ (.cons ru .nil), ⟨_, hT2, rfl, _, rfl⟩⟩
    have I1 : Inv X pins σ (upd H s.heap.objs.size (.tup [.int (i : Nat), x])) { s with heap := h'', toks := tk + 1 } :=
      I.turnedNew (ch := [e, it]) (fun b ob hb q => (sb.2 b (fun z => hb (by simp [z]))).trans (hk b ob (fun z => hb (by simp [z])) (fun z => hb (by simp [z])) q)) hf (Nat.le_refl _) new
    refine ⟨.ref s.heap.objs.size, _, I1, rfl, ⟨_, x, rfl, I.hok.fresh (Nat.le_refl _), rfl, fun ys hy => by rw [I.tuple_inj hy hq]; exact hx⟩, ⟨⟨x', ?_⟩, hst'.1.at fun o q => (sb.2 it (Ne.symm hne)).trans q, hne, hea, hai⟩, fun b hb => ?_⟩
    · have e1 : ((i + 1 : Nat) : Int) = (i : Int) + 1 := by omega
      rw [e1]; exact he'
    · have hb' : b < s.heap.objs.size := by
        have e' : b = e ∨ b = it := by simpa using hb
        rcases e' with z | z
        · rw [z]; exact hel
        · rw [z]; exact hil
      rw [upd_ne (Nat.ne_of_lt hb')]
      exact (hf b hb).1
  done := by
    intro X hP hw hK hc i pins s σ H E I hf st hg
    subst hP hw hK
    obtain ⟨⟨old, he⟩, hit, hne⟩ := st
    obtain ⟨xs, hq, hx⟩ := hg
    obtain ⟨its, rv, p, hz⟩ := I.tuple hq
    obtain ⟨f0, f1, f2, f3, f4, f5⟩ := hf it (by simp)
    have hl := rv.length
    exact pyNext_enum_endT (I.ok.hd hc) he hit (show s.heap.IsTuple a its.toArray from p) (by simp; omega) fun h' eb => ⟨rfl, I.turned (t' := s.toks) (fun b o hb q => eb b o hb q) f0 f1 f3 f4 f5⟩
  self := fun A i s Q E st h => let ⟨⟨_, he⟩, _⟩ := st; wpAny_pyIter_enum he h
def iEnumT (K : PySem.W.Frag) (ta : TA) : TI := fun σ H R => ta σ H fun vs H1 => ∃ a xs, vs = [.ref a] ∧ SqT K H1 a xs ∧ R (IteT K a) H1
theorem pi_enumT {X : Cx} {e : Expr} {ta : TA} {p pos tpos : Pos} {elts : List Expr} {kk : Nat} (hg : Gl X "enumerate") (hm : X.mg "enumerate" = none) (ha : PA X [e] ta) (hs : starEach [e] X.env = [(false, eval e X.env)] := by rfl) :
    PI X (.Tuple elts kk tpos) (.Call (.Name "enumerate" p) [e] [] pos) (iEnumT X.K ta) := by
  refine ⟨fun pins s σ H R I h => ?_⟩
  refine Call_ (ld_blt I hg hm boot_enumerate (PyProof.Rows.callWith_type1 (thn (ha.run pos pins s σ H _ I h) fun us s1 ⟨vs, H1, I1, r1, q1⟩ => ?_) hs rfl))
  obtain ⟨a, xs, ex, hq, q⟩ := q1
  subst ex
  cases r1 with
  | cons r rr =>
    cases rr
    cases r
    obtain ⟨its, rv, p', hz⟩ := I1.tuple hq
    have hal : a < s1.heap.objs.size := by obtain ⟨o, ho, _⟩ := p'; exact Heap.lt_size ho
    refine call_enumerate_tuple (show s1.heap.IsTuple a its.toArray from p') fun h' he hit hsz hk => wpAny_pyIter_enum he ?_
    have I2 : Inv X pins σ H1 { s1 with heap := h' } := I1.kept (t' := s1.toks) hk
    refine ⟨s1.heap.objs.size + 1, [s1.heap.objs.size + 1, s1.heap.objs.size], _, _, H1, rfl, I2, turn_enumT a (s1.heap.objs.size + 1) s1.heap.objs.size, ⟨⟨.none, he⟩, hit, Nat.succ_ne_self _, Nat.ne_of_gt (Nat.lt_succ_of_lt hal), Nat.ne_of_lt hal⟩, fun b hb => ?_, q⟩
    have e' : b = s1.heap.objs.size + 1 ∨ b = s1.heap.objs.size := by simpa using hb
    have hle : s1.heap.objs.size ≤ b := by
      rcases e' with z | z
      · rw [z]; exact Nat.le_add_right _ _
      · rw [z]; exact Nat.le_refl _
    exact I1.fpOk hle (I1.hok.fresh hle)
end L2
namespace M
open PySem PySem.Spec PyProof.Rows L2
section
variable {K : PySem.W.Frag} {mg : Str → Option Value} {I I1 H I' H' : Hp} {σ σ' ρ : List (Option V)} {Γ Γ1 Θ : List Cell} {i j n : Nat} {v v0 v1 v2 v3 : V} {te tl ti : TE} {ta : TA} {tt : TT} {t u : TS} {to : TO} {dn db dc : L2.St → Hp → Prop} {dr : VK} {Q : VK} {W : WX}
variable {pn : Option V} {ω : Type} {P : ω → Prop} {X : Exn → Prop} {α β γ δ : Type}
theorem EnvL.snapO {es es1 : List Ent} (h : EnvL K I H es) (h1 : EnvL K I1 H es1) (s : LetS I I1) (hn : ∀ e ∈ es1, e.2 = noOwn e.2) : ∃ S : Snap, EnvL K I1 H ((some V.non, .own S) :: es1) ∧
    (∀ {I' H' : Hp} {o : Option V} {r : List Ent}, EnvL K I' H' ((o, .own S) :: r) → EnvL K I H' es) ∧
    (∀ {I' H' : Hp} {o : Option V} {r : List Ent} {d : V} {fs : List (Str × V)}, EnvL K I' H' ((some d, .im (XD.mk fs)) :: (o, .own S) :: r) → (∃ I2, EnvL K I2 H' ((some d, .im (XD.mk fs)) :: es))) ∧
    ∀ {β : Type} [Sca β] {bs : List β} {pn : Option V} {v : V} {I' H' : Hp} {o : Option V} {r : List Ent}, EnvL K I' H' ((some v, .own bs pn) :: (o, .own S) :: r) → EnvL K I H' ((some v, .own bs) :: es) := by
  obtain ⟨sm, fs, e1, e2, e3⟩ := h
  obtain ⟨sm1, fs1, d1, d2, d3⟩ := h1
  have f0 := Ents.noOwn0 hn d1
  classical
  refine ⟨⟨I1, H, fs.flatten.filter fun a => decide (I1 a = none)⟩, ⟨sm1, _ :: fs1, ⟨⟨V.non, rfl, (fun _ z => nomatch z), rfl, Same.refl _, fun _ _ => rfl⟩, d1⟩, ?_, ?_⟩, fun {I' H' o r} z => ?_, fun {I' H' o r d xs} z => ?_, fun {β _ bs pn v I' H' o r} z => ?_⟩
  · rw [List.flatten_cons, f0, List.append_nil]
    exact e2.filter _
  · intro a ha
    rw [List.flatten_cons, f0, List.append_nil] at ha
    have ha := List.mem_filter.mp ha
    exact ⟨by simpa using ha.2, (e3 a ha.1).2⟩
  · obtain ⟨t1, gs, t2, t3, t4⟩ := z
    cases gs with
    | nil => exact t2.elim
    | cons g gs =>
      obtain ⟨⟨w, _, _, q1, q2, q3⟩, _⟩ := t2
      have q1 : g = _ := q1
      have q2 : Same I1 I' := q2
      have hk : ∀ a ∈ fs.flatten, H' a = H a := fun a ha => by
        cases e : I1 a with
        | none => exact q3 a (by rw [q1]; exact List.mem_filter.mpr ⟨ha, by simpa using e⟩)
        | some u => rw [t1 a u (q2 a u e), sm1 a u e]
      refine ⟨fun a u e => t1 a u (q2 a u (s.same a u e)), fs, Ents.mono (Same.refl _) hk e1, e2, fun a ha => ⟨(e3 a ha).1, ?_⟩⟩
      rw [hk a ha]
      exact (e3 a ha).2
  · obtain ⟨t1, gs, t2, t3, t4⟩ := z
    cases gs with
    | nil => exact t2.elim
    | cons g0 gs =>
      cases gs with
      | nil => exact t2.2.elim
      | cons g gs =>
        obtain ⟨⟨hg0, v0, ev0, hx0⟩, ⟨w, _, _, q1, q2, q3⟩, _⟩ := t2
        have q1 : g = _ := q1
        have q2 : Same I1 I' := q2
        have ev0 : some d = some v0 := ev0
        cases ev0
        have hk : ∀ a ∈ fs.flatten, H' a = H a := fun a ha => by
          cases e : I1 a with
          | none => exact q3 a (by rw [q1]; exact List.mem_filter.mpr ⟨ha, by simpa using e⟩)
          | some u => rw [t1 a u (q2 a u e), sm1 a u e]
        have hx0 : XDr I' d xs := hx0
        rcases hx0 with hx0 | ⟨d', ed', hxd⟩
        · have b : EnvL K I H' es := ⟨fun a u e => t1 a u (q2 a u (s.same a u e)), fs, Ents.mono (Same.refl _) hk e1, e2, fun a ha => ⟨(e3 a ha).1, by rw [hk a ha]; exact (e3 a ha).2⟩⟩
          exact ⟨I, b.im (a := XD.mk xs) (.inl hx0)⟩
        subst ed'
        have hd' : H' d' = some (.xd xs) := t1 _ _ hxd
        have sI : Same I (upd I d' (.xd xs)) := fun a u e => by
          by_cases hd : a = d'
          · subst hd
            have z1 := t1 a u (q2 a u (s.same a u e))
            rw [hd'] at z1
            rw [upd_same, ← z1]
          · rw [upd_ne hd]; exact e
        have nd : ∀ a ∈ fs.flatten, a ≠ d' := fun a ha hd => by
          subst hd
          cases e : I1 a with
          | none =>
            have : I' a = none := (t4 a (by
              rw [List.flatten_cons, List.flatten_cons]
              refine List.mem_append_right _ (List.mem_append_left _ ?_)
              rw [q1]; exact List.mem_filter.mpr ⟨ha, by simpa using e⟩)).1
            rw [hxd] at this
            cases this
          | some u =>
            rcases s.lst a u e with h | ⟨vs, h⟩
            · rw [(e3 a ha).1] at h; cases h
            · have z1 := t1 a u (q2 a u e)
              rw [hd', h] at z1
              cases z1
        refine ⟨upd I d' (.xd xs), fun a u e => ?_, [] :: fs, ⟨⟨rfl, _, rfl, .inr ⟨d', rfl, upd_same⟩⟩, Ents.mono sI hk e1⟩, ?_, fun a ha => ?_⟩
        · by_cases hd : a = d'
          · subst hd
            rw [upd_same] at e
            rw [← e]; exact hd'
          · rw [upd_ne hd] at e
            exact t1 a u (q2 a u (s.same a u e))
        · exact e2
        · have ha : a ∈ fs.flatten := ha
          refine ⟨by rw [upd_ne (nd a ha)]; exact (e3 a ha).1, ?_⟩
          rw [hk a ha]
          exact (e3 a ha).2
  · obtain ⟨t1, gs, t2, t3, t4⟩ := z
    cases gs with
    | nil => exact t2.elim
    | cons g0 gs =>
      cases gs with
      | nil => exact t2.2.elim
      | cons g gs =>
        obtain ⟨⟨v0, ev0, _, p, vs, e0, hg0, hp, pr⟩, ⟨w, _, _, q1, q2, q3⟩, _⟩ := t2
        have q1 : g = _ := q1
        have q2 : Same I1 I' := q2
        have ev0 : some v = some v0 := ev0
        cases ev0
        subst hg0
        have hk : ∀ a ∈ fs.flatten, H' a = H a := fun a ha => by
          cases e : I1 a with
          | none => exact q3 a (by rw [q1]; exact List.mem_filter.mpr ⟨ha, by simpa using e⟩)
          | some u => rw [t1 a u (q2 a u e), sm1 a u e]
        have pI : I' p = none := (t4 p (by simp)).1
        have np : ∀ a ∈ fs.flatten, a ≠ p := fun a ha q => by
          subst q
          cases e : I1 a with
          | none =>
            rw [List.flatten_cons, List.flatten_cons, q1] at t3
            exact (List.nodup_append.mp t3).2.2 a (by simp) a (List.mem_append_left _ (List.mem_filter.mpr ⟨ha, by simpa using e⟩)) rfl
          | some u => rw [q2 a u e] at pI; cases pI
        have pI0 : I p = none := by
          cases e : I p with
          | none => rfl
          | some u => rw [q2 p u (s.same p u e)] at pI; cases pI
        refine ⟨fun a u e => t1 a u (q2 a u (s.same a u e)), [p] :: fs, ⟨⟨v, rfl, (fun _ z => nomatch z), p, vs, e0, rfl, hp, Paired.monoR (fun _ _ z => z) pr⟩, Ents.mono (Same.refl _) hk e1⟩, ?_, fun a ha => ?_⟩
        · rw [List.flatten_cons]
          refine List.nodup_append.mpr ⟨by simp, e2, fun a ha b hb q => ?_⟩
          have e : a = p := by simpa using ha
          exact np b hb (q ▸ e)
        · rw [List.flatten_cons] at ha
          rcases List.mem_append.mp ha with ha | ha
          · have e : a = p := by simpa using ha
            subst e
            exact ⟨pI0, by rw [hp]; exact fun z => nomatch z⟩
          · exact ⟨(e3 a ha).1, by rw [hk a ha]; exact (e3 a ha).2⟩
/-- before such a call; E1: the same where what the call reads is let be -/
theorem Env.borrowO (E : Env K I H σ Γ ρ Θ) (E1 : Env K I1 H σ Γ1 ρ Θ) (s : LetS I I1) : ∃ S : Snap, Env K I1 H σ (Γ1.map noOwn) (some V.non :: ρ) (.own S :: Θ.map noOwn) ∧
    (∀ {β : Type} [Sca β] {b : β} {I' H' : Hp} {v : V} {σ2 : List (Option V)} {Γ2 Θ2 : List Cell} {o : Option V} {ρ2 : List (Option V)}, Env K I' H' σ2 Γ2 (some v :: o :: ρ2) (.im b :: .own S :: Θ2) → Env K I H' σ Γ (some v :: ρ) (.im b :: Θ)) ∧
    (∀ {I' H' : Hp} {σ2 : List (Option V)} {Γ2 Θ2 : List Cell} {o : Option V} {ρ2 : List (Option V)} {d : V} {fs : List (Str × V)}, Env K I' H' σ2 Γ2 (some d :: o :: ρ2) (.im (XD.mk fs) :: .own S :: Θ2) → ∃ I2, Env K I2 H' σ Γ (some d :: ρ) (.im (XD.mk fs) :: Θ)) ∧
    (∀ {β : Type} [Sca β] {bs : List β} {pn : Option V} {I' H' : Hp} {v : V} {σ2 : List (Option V)} {Γ2 Θ2 : List Cell} {o : Option V} {ρ2 : List (Option V)}, Env K I' H' σ2 Γ2 (some v :: o :: ρ2) (.own bs pn :: .own S :: Θ2) → Env K I H' σ Γ (some v :: ρ) (.own bs :: Θ)) := by
  have E2 := (E1.weak (wk_noOwn Γ1)).weakT (wk_noOwn Θ)
  obtain ⟨S, a, b, b2, b3⟩ := E.2.2.snapO E2.2.2 s fun e he => by
    rcases List.mem_append.mp he with he | he
    · exact zip_noOwn e he
    · exact zip_noOwn e he
  refine ⟨S, E2.toStack a, fun {β _ b' I' H' v σ2 Γ2 Θ2 o ρ2} Z => ?_, fun {I' H' σ2 Γ2 Θ2 o ρ2 d fs} Z => ?_, fun {β _ bs pn I' H' v σ2 Γ2 Θ2 o ρ2} Z => ?_⟩
  · have z := b Z.pop.unstack
    have r := Z.topS
    have E3 : Env K I H' σ Γ ρ Θ := ⟨E.1, E.2.1, z⟩
    rw [r.1]
    exact E3.pushS r.2
  · have z0 : EnvL K I' H' ((some d, .im (XD.mk fs)) :: (o, .own S) :: (σ2.zip Γ2 ++ ρ2.zip Θ2)) := by
      refine Z.2.2.perm ?_
      show (σ2.zip Γ2 ++ ((some d, Cell.im (XD.mk fs)) :: (o, Cell.own S) :: ρ2.zip Θ2)).Perm _
      exact List.perm_middle.trans (List.Perm.cons _ List.perm_middle)
    obtain ⟨I2, z⟩ := b2 z0
    exact ⟨I2, E.1, by simp [E.2.1], z.perm List.perm_middle.symm⟩
  · have z0 : EnvL K I' H' ((some v, .own bs pn) :: (o, .own S) :: (σ2.zip Γ2 ++ ρ2.zip Θ2)) := by
      refine Z.2.2.perm ?_
      show (σ2.zip Γ2 ++ ((some v, Cell.own bs pn) :: (o, Cell.own S) :: ρ2.zip Θ2)).Perm _
      exact List.perm_middle.trans (List.Perm.cons _ List.perm_middle)
    have z := b3 z0
    exact ⟨E.1, by simp [E.2.1], z.perm List.perm_middle.symm⟩
end
/-! ### enumerate, a star in a display, the truth of a list -/
def enumL {α : Type} (xs : List α) : List (Int × α) := xs.zipIdx.map fun p => ((p.2 : Int), p.1)
theorem enumL_len {α : Type} (xs : List α) : (enumL xs).length = xs.length := by unfold enumL; simp
theorem enumL_at {α : Type} {xs : List α} {i : Nat} {a : Int × α} (h : (enumL xs)[i]? = some a) : xs[i]? = some a.2 ∧ a.1 = (i : Int) := by
  unfold enumL at h
  rw [List.getElem?_map, List.getElem?_zipIdx] at h
  cases e : xs[i]? with
  | none => rw [e] at h; cases h
  | some x =>
    rw [e] at h
    have := Option.some.inj h
    rw [← this]
    simp
section
variable {K : PySem.W.Frag} {I H : Hp} {σ ρ : List (Option V)} {Γ Γ' Θ : List Cell} {i j : Nat} {v : V} {pn : Option V} {te tl : TE} {ta : TA} {Q : VK} {ω : Type} {P : ω → Prop} {X : Exn → Prop}
theorem uEnum {R : It → Hp → Prop} (h : ta σ H fun vs H1 => ∃ a xs, vs = [.ref a] ∧ SqL K H1 a xs ∧ R (Ite K a) H1) : iEnum K ta σ H R := h
theorem uEnumT {R : It → Hp → Prop} (h : ta σ H fun vs H1 => ∃ a xs, vs = [.ref a] ∧ SqT K H1 a xs ∧ R (IteT K a) H1) : iEnumT K ta σ H R := h
theorem enum_new {α : Type} [Rep α] {T : Addr} {x : V} {a : Int × α} {i : Nat} (s : Same I H) (hT : H T = none) (h1 : a.1 = (i : Int)) (r : Rep.rp K I x a.2) : ∃ I', Grow I H I' (upd H T (.tup [.int (i : Nat), x])) ∧ Rep.rp K I' (.ref T) a := by
  have hi : I T = none := by
    cases e : I T with
    | none => rfl
    | some o => rw [s T o e] at hT; cases hT
  refine ⟨_, Grow.newI s hT, T, _, _, rfl, .inl (.inl upd_same), ⟨by rw [h1]; rfl, trivial⟩, Rep.mono (fun b o e => by rw [upd_ne (ne_of_none e hi)]; exact e) r⟩
theorem it_enum {α : Type} [Rep α] {R : Addr → Prop} {xs : List α} (E : Env K I H σ Γ (some v :: ρ) (.im xs :: Θ)) (next : ∀ a, Feeds K (Ite K a) (enumL xs) [some v] [.im xs] → R a) :
    ∃ a ys, [v] = [.ref a] ∧ SqL K H a ys ∧ R a := by
  obtain ⟨a, vs, e, hq, pr⟩ := E.topR
  subst e
  refine ⟨a, vs, rfl, SqL.of (E.same _ _ hq), next _ ⟨rfl, fun {_ _} {_ _} {_ _} i E' hi => ?_, fun {I H} {_ _} {_ _} i x H' b E' hx hy => ?_, fun {_ _} {_ _} {_ _} i E' hi => ?_⟩⟩
  · obtain ⟨a', vs', e', hq', pr'⟩ := E'.topR
    cases e'
    have hl : vs'.length = xs.length := Paired.length pr'
    rw [enumL_len] at hi
    exact ⟨vs', vs'[i]'(by omega), SqL.of (E'.same _ _ hq'), List.getElem?_eq_getElem (by omega)⟩
  · obtain ⟨a', vs', e', hq', pr'⟩ := E'.topR
    cases e'
    obtain ⟨T, y, rfl, hT, rfl, hy⟩ := hy
    obtain ⟨hx1, hx2⟩ := enumL_at hx
    exact enum_new E'.same hT hx2 (paired_at pr' (hy _ (SqL.of (E'.same _ _ hq'))) hx1)
  · obtain ⟨a', vs', e', hq', pr'⟩ := E'.topR
    cases e'
    have hl : vs'.length = xs.length := Paired.length pr'
    rw [enumL_len] at hi
    exact ⟨vs', SqL.of (E'.same _ _ hq'), by omega⟩
theorem it_enumT {α : Type} [Rep α] {R : Addr → Prop} {xs : TupL α} (E : Env K I H σ Γ (some v :: ρ) (.im xs :: Θ)) (next : ∀ a, Feeds K (IteT K a) (enumL xs.l) [some v] [.im xs] → R a) :
    ∃ a ys, [v] = [.ref a] ∧ SqT K H a ys ∧ R a := by
  obtain ⟨a, vs, e, hq, pr⟩ := E.topR
  subst e
  refine ⟨a, vs, rfl, same_seqT E.same hq, next _ ⟨rfl, fun {_ _} {_ _} {_ _} i E' hi => ?_, fun {I H} {_ _} {_ _} i x H' b E' hx hy => ?_, fun {_ _} {_ _} {_ _} i E' hi => ?_⟩⟩
  · obtain ⟨a', vs', e', hq', pr'⟩ := E'.topR
    cases e'
    have hl : vs'.length = xs.l.length := Paired.length pr'
    rw [enumL_len] at hi
    exact ⟨vs', vs'[i]'(by omega), same_seqT E'.same hq', List.getElem?_eq_getElem (by omega)⟩
  · obtain ⟨a', vs', e', hq', pr'⟩ := E'.topR
    cases e'
    obtain ⟨T, y, rfl, hT, rfl, hy⟩ := hy
    obtain ⟨hx1, hx2⟩ := enumL_at hx
    exact enum_new E'.same hT hx2 (paired_at pr' (hy _ (same_seqT E'.same hq')) hx1)
  · obtain ⟨a', vs', e', hq', pr'⟩ := E'.topR
    cases e'
    have hl : vs'.length = xs.l.length := Paired.length pr'
    rw [enumL_len] at hi
    exact ⟨vs', same_seqT E'.same hq', by omega⟩
/-- [a, *xs] -/
theorem uStar {A : List V → Hp → Prop} (h : te σ H fun x H1 => ∃ p xs, x = V.ref p ∧ (SqT K H1 p xs ∨ SqL K H1 p xs) ∧ ta σ H1 fun ys H2 => A (xs ++ ys) H2) : StX.tStar K te ta σ H A := h
theorem star_of {α : Type} [Rep α] {x : α} {ys : List α} {v1 v2 : V} {k : List α → Res ω} (E : Env K I H σ Γ (some v2 :: some v1 :: ρ) (.im ys :: .im x :: Θ)) (h : wp ((lCat [x] ys).bind k) P X)
    (next : ∀ zs vs, Paired (fun v x => Rep.rp K I v x) vs zs → wp (k zs) P X → ∀ p, H p = none → Q (.ref p) (upd H p (.lst vs))) :
    ∃ p xs, v2 = V.ref p ∧ (SqT K H p xs ∨ SqL K H p xs) ∧ tNil σ H fun zs H2 => LsG (v1 :: (xs ++ zs)) H2 Q := by
  obtain ⟨p, vs, e, hq, pr⟩ := E.topR
  have r1 := E.pop.topR
  have hl : vs.length = ys.length := Paired.length pr
  unfold lCat at h
  rw [clo_eq] at h
  by_cases hz : [x].length + ys.length ≤ line
  · rw [if_pos hz] at h
    refine ⟨p, vs, e, .inr (SqL.of (E.same _ _ hq)), ?_⟩
    show LsG (v1 :: (vs ++ [])) H Q
    rw [List.append_nil]
    refine ⟨line_of ?_, next _ _ (.cons r1 pr) h⟩
    rw [List.length_cons, hl]
    simp at hz
    omega
  · rw [if_neg hz] at h
    exact h.elim
theorem st_starO {α : Type} [Rep α] {x : α} {ys : List α} {v1 v2 : V} {k : List α → Res ω} (E : Env K I H σ Γ (some v2 :: some v1 :: ρ) (.im ys :: .im x :: Θ)) (h : wp ((lCat [x] ys).bind k) P X)
    (next : ∀ zs H' v, Env K I H' σ Γ (some v :: ρ) (.own zs :: Θ) → wp (k zs) P X → Q v H') : ∃ p xs, v2 = V.ref p ∧ (SqT K H p xs ∨ SqL K H p xs) ∧ tNil σ H fun zs H2 => LsG (v1 :: (xs ++ zs)) H2 Q :=
  star_of E h fun zs vs pr h => st_newO E.pop.pop pr fun H' v E => next zs H' v E h
theorem st_starI {α : Type} [Rep α] {x : α} {ys : List α} {v1 v2 : V} {k : List α → Res ω} (E : Env K I H σ Γ (some v2 :: some v1 :: ρ) (.im ys :: .im x :: Θ)) (h : wp ((lCat [x] ys).bind k) P X)
    (next : ∀ zs I' H' v, Env K I' H' σ Γ (some v :: ρ) (.im zs :: Θ) → wp (k zs) P X → Q v H') : ∃ p xs, v2 = V.ref p ∧ (SqT K H p xs ∨ SqL K H p xs) ∧ tNil σ H fun zs H2 => LsG (v1 :: (xs ++ zs)) H2 Q :=
  star_of E h fun zs vs pr h => st_newI E.pop.pop pr fun I' H' v E => next zs I' H' v E h
/-- if xs -/
theorem ht_truL {α : Type} [Rep α] {xs : List α} (hΓ : Γ[j]? = some (.im xs)) : HT K (tTrq K (tVar j)) Γ (.ok (!xs.isEmpty)) := .mk fun X Q E q => by
  obtain ⟨a, vs, hs, ha, p⟩ := E.listAt hΓ
  have hl : vs.length = xs.length := Paired.length p
  have e : vs.isEmpty = xs.isEmpty := by cases vs <;> cases xs <;> simp_all
  exact ⟨_, hs, _, .inl ⟨vs, SqL.of ha, rfl⟩, by rw [e]; exact q⟩
theorem ht_truO {α : Type} [Rep α] {xs : List α} (hΓ : Γ[j]? = some (.own xs pn)) : HT K (tTrq K (tVar j)) Γ (.ok (!xs.isEmpty)) := .mk fun X Q E q => by
  obtain ⟨a, vs, hs, ha, p⟩ := E.ownAt' hΓ
  have hl : vs.length = xs.length := Paired.length p
  have e : vs.isEmpty = xs.isEmpty := by cases vs <;> cases xs <;> simp_all
  exact ⟨_, hs, _, .inl ⟨vs, SqL.of ha, rfl⟩, by rw [e]; exact q⟩
end
end M
namespace M
open PySem PySem.Spec PyProof.Rows L2
/-! ### owned lists of owned lists -/
structure Mat (α : Type) where
  rows : List (List α)
def RowsO {α : Type} [Rep α] (K : PySem.W.Frag) (I H : Hp) : List Addr → List V → List (List α) → Prop
  | [], [], [] => True
  | p :: ps, v :: vs, r :: rs => (v = .ref p ∧ ∃ ws, H p = some (.lst ws) ∧ Paired (fun v x => Rep.rp K I v x) ws r) ∧ RowsO K I H ps vs rs
  | _, _, _ => False
theorem RowsO.mono {α : Type} [Rep α] {K : PySem.W.Frag} {I I' H H' : Hp} (e : Same I I') : ∀ {ps : List Addr} {vs : List V} {rs : List (List α)}, (∀ b ∈ ps, H' b = H b) → RowsO K I H ps vs rs → RowsO K I' H' ps vs rs
  | [], [], [], _, _ => trivial
  | p :: ps, v :: vs, r :: rs, k, h => by
    obtain ⟨⟨e1, ws, h1, q⟩, h2⟩ := h
    exact ⟨⟨e1, ws, by rw [k p List.mem_cons_self]; exact h1, Paired.monoR (fun _ _ z => Rep.mono e z) q⟩, RowsO.mono e (fun b hb => k b (List.mem_cons_of_mem _ hb)) h2⟩
  | [], [], _ :: _, _, h => h.elim
  | [], _ :: _, _, _, h => h.elim
  | _ :: _, [], _, _, h => h.elim
  | _ :: _, _ :: _, [], _, h => h.elim
instance ownMat {α : Type} [Rep α] : Own (Mat α) where
  ow K fp I H v m := ∃ p ps vs, v = .ref p ∧ fp = p :: ps ∧ H p = some (.lst vs) ∧ RowsO K I H ps vs m.rows
  mono := fun e k ⟨p, ps, vs, e1, e2, h, q⟩ => ⟨p, ps, vs, e1, e2, by subst e2; rw [k p (by simp)]; exact h, by
    subst e2
    exact RowsO.mono e (fun b hb => k b (List.mem_cons_of_mem _ hb)) q⟩
section
variable {α : Type} [Rep α] {K : PySem.W.Frag} {I H I' H' : Hp} {es : List Ent} {o : Option V} {v : V} {pn : Option V}
theorem RowsO.len : ∀ {ps : List Addr} {vs : List V} {rs : List (List α)}, RowsO K I H ps vs rs → vs.length = rs.length ∧ ps.length = rs.length
  | [], [], [], _ => ⟨rfl, rfl⟩
  | p :: ps, v :: vs, r :: rs, h => by
    obtain ⟨a, b⟩ := RowsO.len h.2
    exact ⟨by simp [a], by simp [b]⟩
  | [], [], _ :: _, h => h.elim
  | [], _ :: _, _, h => h.elim
  | _ :: _, [], _, h => h.elim
  | _ :: _, _ :: _, [], h => h.elim
theorem RowsO.at : ∀ {ps : List Addr} {vs : List V} {rs : List (List α)} {i : Nat} {r : List α}, RowsO K I H ps vs rs → rs[i]? = some r → ∃ p ws, ps[i]? = some p ∧ vs[i]? = some (.ref p) ∧ H p = some (.lst ws) ∧ Paired (fun v x => Rep.rp K I v x) ws r
  | [], [], [], i, r, _, e => by simp at e
  | p :: ps, v :: vs, r0 :: rs, 0, r, h, e => by
    obtain ⟨⟨e1, ws, h1, q⟩, _⟩ := h
    have : r0 = r := by simpa using e
    subst this
    exact ⟨p, ws, rfl, by rw [e1]; rfl, h1, q⟩
  | p :: ps, v :: vs, r0 :: rs, i + 1, r, h, e => by
    obtain ⟨q, ws, a, b, c, d⟩ := RowsO.at h.2 (show rs[i]? = some r by simpa using e)
    exact ⟨q, ws, by simpa using a, by simpa using b, c, d⟩
  | [], [], _ :: _, _, _, h, _ => h.elim
  | [], _ :: _, _, _, _, h, _ => h.elim
  | _ :: _, [], _, _, _, h, _ => h.elim
  | _ :: _, _ :: _, [], _, _, h, _ => h.elim
theorem RowsO.set : ∀ {ps : List Addr} {vs : List V} {rs : List (List α)} {i : Nat} {p : Addr} {ws : List V} {r : List α}, ps.Nodup → RowsO K I H ps vs rs → ps[i]? = some p → Paired (fun v x => Rep.rp K I v x) ws r → RowsO K I (upd H p (.lst ws)) ps vs (rs.set i r)
  | [], [], [], i, p, ws, r, _, _, e, _ => by simp at e
  | p0 :: ps, v :: vs, r0 :: rs, 0, p, ws, r, nd, h, e, q => by
    have : p0 = p := by simpa using e
    subst this
    refine ⟨⟨h.1.1, ws, upd_same, q⟩, RowsO.mono (Same.refl _) (fun b hb => upd_ne fun z => ?_) h.2⟩
    subst z
    exact (List.nodup_cons.mp nd).1 hb
  | p0 :: ps, v :: vs, r0 :: rs, i + 1, p, ws, r, nd, h, e, q => by
    have e2 : ps[i]? = some p := by simpa using e
    have hm : p ∈ ps := List.mem_of_getElem? e2
    refine ⟨?_, RowsO.set (List.nodup_cons.mp nd).2 h.2 e2 q⟩
    obtain ⟨e1, ws0, h1, q0⟩ := h.1
    exact ⟨e1, ws0, by rw [upd_ne fun z => ?_]; exact h1; exact (List.nodup_cons.mp nd).1 (z ▸ hm), q0⟩
  | [], [], _ :: _, _, _, _, _, _, h, _, _ => h.elim
  | [], _ :: _, _, _, _, _, _, _, h, _, _ => h.elim
  | _ :: _, [], _, _, _, _, _, _, h, _, _ => h.elim
  | _ :: _, _ :: _, [], _, _, _, _, _, h, _, _ => h.elim
theorem RowsO.snoc : ∀ {ps : List Addr} {vs : List V} {rs : List (List α)} {p : Addr} {ws : List V} {r : List α}, RowsO K I H ps vs rs → H p = some (.lst ws) → Paired (fun v x => Rep.rp K I v x) ws r → RowsO K I H (ps ++ [p]) (vs ++ [.ref p]) (rs ++ [r])
  | [], [], [], p, ws, r, _, e, q => ⟨⟨rfl, ws, e, q⟩, trivial⟩
  | p0 :: ps, v :: vs, r0 :: rs, p, ws, r, h, e, q => ⟨h.1, RowsO.snoc h.2 e q⟩
  | [], [], _ :: _, _, _, _, h, _, _ => h.elim
  | [], _ :: _, _, _, _, _, h, _, _ => h.elim
  | _ :: _, [], _, _, _, _, h, _, _ => h.elim
  | _ :: _, _ :: _, [], _, _, _, h, _, _ => h.elim
/-- an owned list of lists: a row of it, and what becomes of it -/
theorem EnvL.ownM {m : Mat α} (h : EnvL K I H ((o, .own m pn) :: es)) : ∃ p vs, o = some (.ref p) ∧ H p = some (.lst vs) ∧ vs.length = m.rows.length ∧
    ∀ (i : Nat) (r : List α), m.rows[i]? = some r → ∃ q ws, vs[i]? = some (.ref q) ∧ H q = some (.lst ws) ∧ Paired (fun v x => Rep.rp K I v x) ws r ∧
      ∀ (ws' : List V) (r' : List α), Paired (fun v x => Rep.rp K I v x) ws' r' → EnvL K I (upd H q (.lst ws')) ((o, .own (Mat.mk (m.rows.set i r')) pn) :: es) := by
  obtain ⟨s, fs, h1, h2, h3⟩ := id h
  cases fs with
  | nil => exact h1.elim
  | cons f fs =>
    obtain ⟨⟨v, e1, e0, p, ps, vs, e2, e3, hp, rr⟩, h1⟩ := h1
    dsimp only at e1
    subst e1 e2 e3
    rw [List.flatten_cons] at h2 h3
    have hn := List.nodup_append.mp h2
    have hn1 := List.nodup_cons.mp hn.1
    refine ⟨p, vs, rfl, hp, rr.len.1, fun i r hr => ?_⟩
    obtain ⟨q, ws, a, b, c, d⟩ := rr.at hr
    have hq : q ∈ ps := List.mem_of_getElem? a
    have qI := (h3 q (List.mem_append_left _ (List.mem_cons_of_mem _ hq))).1
    have qp : p ≠ q := fun z => hn1.1 (z ▸ hq)
    have nf : ∀ x ∈ fs.flatten, x ≠ q := fun x hx z => hn.2.2 q (List.mem_cons_of_mem _ hq) x hx z.symm
    refine ⟨q, ws, b, c, d, fun ws' r' pr => ⟨fun x u e => ?_, (p :: ps) :: fs, ⟨⟨.ref p, rfl, e0, p, ps, vs, rfl, rfl, by rw [upd_ne qp]; exact hp, RowsO.set hn1.2 rr a pr⟩, Ents.mono (Same.refl _) (fun x hx => upd_ne (nf x hx)) h1⟩, by rw [List.flatten_cons]; exact h2, fun x hx => ?_⟩⟩
    · rw [upd_ne (ne_of_none e qI)]
      exact s x u e
    · rw [List.flatten_cons] at hx
      refine ⟨(h3 x hx).1, ?_⟩
      by_cases z : x = q
      · subst z; rw [upd_same]; exact fun y => nomatch y
      · rw [upd_ne z]; exact (h3 x hx).2
/-- an empty one -/
theorem EnvL.newM {p : Addr} (h : EnvL K I H es) (hp : H p = none) : EnvL K I (upd H p (.lst [])) ((some (.ref p), .own (Mat.mk ([] : List (List α)))) :: es) := by
  obtain ⟨s, fs, h1, h2, h3⟩ := h.newL (α := α) (vs := []) (xs := []) hp .nil
  cases fs with
  | nil => exact h1.elim
  | cons f fs =>
    obtain ⟨⟨v, e1, e0, q, vs, e2, e3, hq, _⟩, h1⟩ := h1
    have e1 : some (V.ref p) = some v := e1
    cases e1
    cases e2
    subst e3
    rw [upd_same] at hq
    cases hq
    exact ⟨s, [p] :: fs, ⟨⟨.ref p, rfl, e0, p, [], [], rfl, rfl, upd_same, trivial⟩, h1⟩, h2, h3⟩
/-- one row more -/
theorem EnvL.snocM {m : Mat α} {r : List α} {pn2 : Option V} {p : Addr} {vs : List V} (h : EnvL K I H ((some (.ref p), .own m pn) :: (some v, .own r pn2) :: es)) (hp : H p = some (.lst vs)) : EnvL K I (upd H p (.lst (vs ++ [v]))) ((some (.ref p), .own (Mat.mk (m.rows ++ [r])) pn) :: es) := by
  obtain ⟨s, fs, h1, h2, h3⟩ := id h
  cases fs with
  | nil => exact h1.elim
  | cons f fs =>
    cases fs with
    | nil => exact h1.2.elim
    | cons g fs =>
      obtain ⟨⟨v0, e1, e0, p0, ps, vs0, e2, e3, hp0, rr⟩, ⟨v1, d1, _, q, ws, d2, d3, hq, pr⟩, h1⟩ := h1
      have e1 : some (V.ref p) = some v0 := e1
      cases e1
      cases e2
      have d1 : some v = some v1 := d1
      cases d1
      subst d2 e3 d3
      rw [hp] at hp0
      cases hp0
      rw [List.flatten_cons, List.flatten_cons] at h2 h3
      have hn := List.nodup_append.mp h2
      have hn1 := List.nodup_cons.mp hn.1
      have hn2 := List.nodup_append.mp hn.2.1
      have pI := (h3 p (by simp)).1
      have np : ∀ x ∈ fs.flatten, x ≠ p := fun x hx z => hn.2.2 p (by simp) x (List.mem_append_right _ hx) z.symm
      have pq : q ≠ p := fun z => hn.2.2 p (by simp) q (by simp) z.symm
      refine ⟨fun x u e => ?_, (p :: (ps ++ [q])) :: fs, ⟨⟨.ref p, rfl, e0, p, ps ++ [q], vs ++ [.ref q], rfl, rfl, upd_same, RowsO.snoc (RowsO.mono (Same.refl _) (fun b hb => upd_ne (show b ≠ p from fun z => hn1.1 (z ▸ hb))) rr) (by rw [upd_ne pq]; exact hq) pr⟩, Ents.mono (Same.refl _) (fun x hx => upd_ne (np x hx)) h1⟩, ?_, fun x hx => ?_⟩
      · rw [upd_ne (ne_of_none e pI)]
        exact s x u e
      · rw [List.flatten_cons]
        have e : p :: (ps ++ [q]) ++ fs.flatten = (p :: ps) ++ ([q] ++ fs.flatten) := by simp
        rw [e]
        exact h2
      · have hx2 : x ∈ (p :: ps) ++ ([q] ++ fs.flatten) := by
          rw [List.flatten_cons] at hx
          have e : p :: (ps ++ [q]) ++ fs.flatten = (p :: ps) ++ ([q] ++ fs.flatten) := by simp
          rw [e] at hx
          exact hx
        refine ⟨(h3 x hx2).1, ?_⟩
        by_cases z : x = p
        · subst z; rw [upd_same]; exact fun y => nomatch y
        · rw [upd_ne z]; exact (h3 x hx2).2
end
end M
namespace M
open PySem PySem.Spec PyProof.Rows L2
noncomputable def lcO {α β : Type} (f : α → Res (List β)) (xs : List α) : Res (Mat β) := clo (if xs.length ≤ line then (mapR f xs).bind fun ys => .ok ⟨ys⟩ else .bad)
def mapS {α β S : Type} (f : α → S → Res (β × S)) : List α → S → Res (List β × S)
  | [], s => .ok ([], s)
  | x :: xs, s => (f x s).bind fun y => (mapS f xs y.2).bind fun z => .ok (y.1 :: z.1, z.2)
noncomputable def lcS {α β S : Type} (f : α → S → Res (β × S)) (xs : List α) (s : S) : Res (List β × S) := clo (if xs.length ≤ line then mapS f xs s else .bad)
section
variable {K : PySem.W.Frag} {mg : Str → Option Value} {I H I' H' : Hp} {σ σ' ρ : List (Option V)} {Γ Γ' Θ : List Cell} {i j n : Nat} {v v1 v2 v3 : V} {c c1 c2 : Cell} {o : Option V} {te tl ti : TE} {ta : TA} {tt : TT} {t u : TS} {dn db dc : L2.St → Hp → Prop} {dr : VK} {Q : VK} {W : WX}
variable {ω : Type} {P : ω → Prop} {X : Exn → Prop} {α β γ δ : Type}
theorem mapS_at {S : Type} {f : α → S → Res (β × S)} {xs : List α} {s : S} {x : α} (hx : xs[i]? = some x) : mapS f (xs.drop i) s = (f x s).bind fun y => (mapS f (xs.drop (i + 1)) y.2).bind fun z => .ok (y.1 :: z.1, z.2) := by
  obtain ⟨hi, e⟩ := List.getElem?_eq_some_iff.mp hx
  rw [List.drop_eq_getElem_cons hi, e]
  rfl
theorem st_lcmM [Rep α] [Rep β] {xs : List α} {J : It} {ρe : List (Option V)} {Θe : List Cell} {f : α → Res (List β)} {k : Mat β → Res ω} (hJ : Feeds K J xs ρe Θe)
    (E : Env K I H σ Γ (ρe ++ ρ) (Θe ++ Θ)) (hΓ : Γ[i]? = some c) (h : wp ((lcO f xs).bind k) P X)
    (next : ∀ ys I' H' v, Env K I' H' σ Γ (some v :: ρ) (.own ys :: Θ) → wp (k ys) P X → Q v H')
    (elt : ∀ x I' H' σ' ρ' Θ' (Qe : VK), Env K I' H' σ' (Γ.set i (.im x)) ρ' Θ' → wp (f x) (fun z => ∀ I'' H'' w, Env K I'' H'' σ' (Γ.set i (.im x)) (some w :: ρ') (.own z :: Θ') → Qe w H'') X → te σ' H' Qe) :
    LcG J (gName i) tYes te [i] σ H Q := by
  intro D hD
  have hi : i < Γ.length := (List.getElem?_eq_some_iff.mp hΓ).1
  unfold lcO at h
  rw [clo_eq] at h
  by_cases hz : xs.length ≤ line
  case neg =>
    rw [if_neg hz] at h
    exact h.elim
  rw [if_pos hz, Res.bind_assoc] at h
  obtain ⟨o, ho, E1⟩ := E.aside hΓ
  have E2 := E1.toStack (E1.2.2.newM (α := β) hD)
  -- the state: the list so far on top
  refine ⟨fun n m H' => m = xs.length - n ∧ n ≤ xs.length ∧ ∃ (acc : Mat β) (I' : Hp), acc.rows.length ≤ n ∧ Env K I' H' (σ.set i none) (Γ.set i .any) (some (.ref D) :: o :: (ρe ++ ρ)) (.own acc :: c :: (Θe ++ Θ)) ∧
    wp ((mapR f (xs.drop n)).bind fun ys => k ⟨acc.rows ++ ys⟩) P X, ⟨xs.length, by simp, Nat.zero_le _, ⟨[]⟩, I, Nat.le_refl _, E2, h⟩, ?_⟩
  rintro n m H' ⟨rfl, hn, acc, I', ha, E', h'⟩
  -- the walk's entries, seen
  have EJ : Env K I' H' (σ.set i none) (Γ.set i .any) (ρe ++ (some (.ref D) :: o :: ρ)) (Θe ++ (.own acc :: c :: Θ)) := by
    refine ⟨E'.1, ?_, E'.2.2.perm ((List.Perm.refl _).append ?_)⟩
    · have := E'.2.1
      have l := hJ.len
      simp only [List.length_append, List.length_cons] at this ⊢
      omega
    · have l := hJ.len
      show (((some (V.ref D), Cell.own acc) :: (o, c) :: ((ρe ++ ρ).zip (Θe ++ Θ)))).Perm _
      rw [List.zip_append l, List.zip_append l]
      show ((some (V.ref D), Cell.own acc) :: (o, c) :: (ρe.zip Θe ++ ρ.zip Θ)).Perm (ρe.zip Θe ++ ((some (V.ref D), Cell.own acc) :: (o, c) :: ρ.zip Θ))
      exact ((List.perm_middle.symm).cons _ |>.trans List.perm_middle.symm)
  by_cases hlt : n < xs.length
  · have hx : xs[n]? = some xs[n] := List.getElem?_eq_getElem hlt
    rw [mapR_at hx, Res.bind_assoc] at h'
    refine .inr ⟨hJ.go n EJ hlt, fun H2 => ∃ (acc : Mat β) (I' : Hp), acc.rows.length ≤ n + 1 ∧ Env K I' H2 (σ.set i none) (Γ.set i .any) (some (.ref D) :: o :: (ρe ++ ρ)) (.own acc :: c :: (Θe ++ Θ)) ∧
      wp ((mapR f (xs.drop (n + 1))).bind fun ys => k ⟨acc.rows ++ ys⟩) P X, fun H2 z => ⟨xs.length - (n + 1), by omega, rfl, hlt, z⟩, fun y H2 hyl => ?_⟩
    obtain ⟨I2, g2, ry⟩ := hJ.yld n y H2 _ EJ hx hyl
    have E3 := ((E'.grow g2).push ry).store (i := i) (Γ' := Γ.set i (.im xs[n])) (by simpa using hi) (by rw [List.set_set])
    refine ⟨by show ((wipe σ [i]).set i (some y)).set i none = wipe σ [i]; rw [wipe1, List.set_set, List.set_set], ?_⟩
    have back : ∀ {I3 H3 : Hp} {ρ' : List (Option V)} {Θ' : List Cell}, Env K I3 H3 ((wipe σ [i]).set i (some y)) (Γ.set i (.im xs[n])) ρ' Θ' → Env K I3 H3 (σ.set i none) (Γ.set i .any) ρ' Θ' := by
      intro I3 H3 ρ' Θ' Z
      have z1 := Z.weak (wkAny (i := i))
      rw [List.set_set] at z1
      have z2 := Env.anyOf z1 hi
      rw [wipe1, List.set_set, List.set_set] at z2
      exact z2
    refine elt xs[n] I2 H2 _ _ _ _ E3 (wpb h' fun z h2 I4 H4 w E5 => ?_)
    rw [Res.bind_assoc] at h2
    have E6 := back E5
    have u0 := E6.unstack
    have u1 : EnvL K I4 H4 ((some (V.ref D), .own acc) :: (some w, .own z) :: ((σ.set i none).zip (Γ.set i .any) ++ (o :: (ρe ++ ρ)).zip (c :: (Θe ++ Θ)))) := by
      refine u0.perm ?_
      exact (List.Perm.cons _ List.perm_middle).trans (.swap _ _ _)
    obtain ⟨p, vs, e1, hp, hl, _⟩ := u1.ownM
    cases e1
    refine ⟨vs, hp, by rw [hl, ← line_eq]; omega, ⟨acc.rows ++ [z]⟩, I4, by show (acc.rows ++ [z]).length ≤ n + 1; rw [List.length_append]; simp; exact ha, ?_, ?_⟩
    · exact (Env.pop (Env.pop E6)).toStack (u1.snocM hp)
    · have e : (fun ys => k ⟨acc.rows ++ z :: ys⟩) = fun ys => k ⟨(acc.rows ++ [z]) ++ ys⟩ := by
        funext ys
        rw [List.append_assoc]
        rfl
      rw [← e]
      exact h2
  · have e : n = xs.length := by omega
    subst e
    rw [List.drop_eq_nil_of_le (Nat.le_refl _)] at h'
    have h' : wp (k ⟨acc.rows ++ []⟩) P X := h'
    rw [List.append_nil] at h'
    refine .inl ⟨hJ.stop _ EJ (Nat.le_refl _), next acc I' H' _ ?_ h'⟩
    -- the entry back, the walk's entries gone
    have E7 : Env K I' H' (σ.set i none) (Γ.set i .any) (ρe ++ (o :: some (.ref D) :: ρ)) (Θe ++ (c :: .own acc :: Θ)) := by
      refine ⟨EJ.1, by have := EJ.2.1; simp only [List.length_append, List.length_cons] at this ⊢; omega, EJ.2.2.perm ((List.Perm.refl _).append ?_)⟩
      rw [List.zip_append hJ.len, List.zip_append hJ.len]
      exact (List.Perm.refl _).append (.swap _ _ _)
    exact (E7.drops hJ.len).again ho hΓ
theorem st_lcs {S : Type} [Rep α] [Rep β] {xs : List α} {J : It} {ρe : List (Option V)} {Θe : List Cell} {f : α → S → Res (β × S)} {k : List β × S → Res ω} {s0 : S} (G : S → List Cell) (hJ : Feeds K J xs ρe Θe)
    (E : Env K I H σ (G s0) (ρe ++ ρ) (Θe ++ Θ)) (hΓ : ∀ s, (G s)[i]? = some c) (h : wp ((lcS f xs s0).bind k) P X)
    (next : ∀ ys s I' H' v, Env K I' H' σ (G s) (some v :: ρ) (.own ys :: Θ) → wp (k (ys, s)) P X → Q v H')
    (elt : ∀ x s I' H' σ' ρ' Θ' (Qe : VK), Env K I' H' σ' ((G s).set i (.im x)) ρ' Θ' → wp (f x s) (fun z => ∀ I'' H'' w, Env K I'' H'' σ' ((G z.2).set i (.im x)) (some w :: ρ') (.im z.1 :: Θ') → Qe w H'') X → te σ' H' Qe) :
    LcG J (gName i) tYes te [i] σ H Q := by
  intro D hD
  have hi : ∀ s, i < (G s).length := fun s => (List.getElem?_eq_some_iff.mp (hΓ s)).1
  unfold lcS at h
  rw [clo_eq] at h
  by_cases hz : xs.length ≤ line
  case neg =>
    rw [if_neg hz] at h
    exact h.elim
  rw [if_pos hz] at h
  obtain ⟨o, ho, E1⟩ := E.aside (hΓ s0)
  have E2 := E1.newL (α := β) (vs := []) (xs := []) hD .nil
  -- the state: the list so far on top
  refine ⟨fun n m H' => m = xs.length - n ∧ n ≤ xs.length ∧ ∃ (acc : List β) (s : S) (I' : Hp), acc.length ≤ n ∧ Env K I' H' (σ.set i none) ((G s).set i .any) (some (.ref D) :: o :: (ρe ++ ρ)) (.own acc :: c :: (Θe ++ Θ)) ∧
    wp ((mapS f (xs.drop n) s).bind fun z => k (acc ++ z.1, z.2)) P X, ⟨xs.length, by simp, Nat.zero_le _, [], s0, I, Nat.le_refl _, E2, h⟩, ?_⟩
  rintro n m H' ⟨rfl, hn, acc, s1, I', ha, E', h'⟩
  -- the walk's entries, seen
  have EJ : Env K I' H' (σ.set i none) ((G s1).set i .any) (ρe ++ (some (.ref D) :: o :: ρ)) (Θe ++ (.own acc :: c :: Θ)) := by
    refine ⟨E'.1, ?_, E'.2.2.perm ((List.Perm.refl _).append ?_)⟩
    · have := E'.2.1
      have l := hJ.len
      simp only [List.length_append, List.length_cons] at this ⊢
      omega
    · have l := hJ.len
      show (((some (V.ref D), Cell.own acc) :: (o, c) :: ((ρe ++ ρ).zip (Θe ++ Θ)))).Perm _
      rw [List.zip_append l, List.zip_append l]
      show ((some (V.ref D), Cell.own acc) :: (o, c) :: (ρe.zip Θe ++ ρ.zip Θ)).Perm (ρe.zip Θe ++ ((some (V.ref D), Cell.own acc) :: (o, c) :: ρ.zip Θ))
      exact ((List.perm_middle.symm).cons _ |>.trans List.perm_middle.symm)
  by_cases hlt : n < xs.length
  · have hx : xs[n]? = some xs[n] := List.getElem?_eq_getElem hlt
    rw [mapS_at hx, Res.bind_assoc] at h'
    refine .inr ⟨hJ.go n EJ hlt, fun H2 => ∃ (acc : List β) (s : S) (I' : Hp), acc.length ≤ n + 1 ∧ Env K I' H2 (σ.set i none) ((G s).set i .any) (some (.ref D) :: o :: (ρe ++ ρ)) (.own acc :: c :: (Θe ++ Θ)) ∧
      wp ((mapS f (xs.drop (n + 1)) s).bind fun z => k (acc ++ z.1, z.2)) P X, fun H2 z => ⟨xs.length - (n + 1), by omega, rfl, hlt, z⟩, fun y H2 hyl => ?_⟩
    obtain ⟨I2, g2, ry⟩ := hJ.yld n y H2 _ EJ hx hyl
    have E3 := ((E'.grow g2).push ry).store (i := i) (Γ' := (G s1).set i (.im xs[n])) (by simpa using hi s1) (by rw [List.set_set])
    refine ⟨by show ((wipe σ [i]).set i (some y)).set i none = wipe σ [i]; rw [wipe1, List.set_set, List.set_set], ?_⟩
    have back : ∀ {s : S} {I3 H3 : Hp} {ρ' : List (Option V)} {Θ' : List Cell}, Env K I3 H3 ((wipe σ [i]).set i (some y)) ((G s).set i (.im xs[n])) ρ' Θ' → Env K I3 H3 (σ.set i none) ((G s).set i .any) ρ' Θ' := by
      intro s I3 H3 ρ' Θ' Z
      have z1 := Z.weak (wkAny (i := i))
      rw [List.set_set] at z1
      have z2 := Env.anyOf z1 (hi s)
      rw [wipe1, List.set_set, List.set_set] at z2
      exact z2
    refine elt xs[n] s1 I2 H2 _ _ _ _ E3 (wpb h' fun z h2 I4 H4 w E5 => ?_)
    rw [Res.bind_assoc] at h2
    have E6 := back E5
    have rz := E6.topR
    obtain ⟨p, vs, e1, hp, _, q, ch, _⟩ := E6.pop.unstack.ownL
    cases e1
    have hlen : vs.length = acc.length := Paired.length q
    refine ⟨vs, hp, by rw [hlen, ← line_eq]; omega, acc ++ [z.1], z.2, I4, by rw [List.length_append]; simp; exact ha, ?_, ?_⟩
    · exact E6.pop.pop.toStack (ch (Grow.refl E6.same) _ _ (paired_app q (.cons rz .nil)))
    · have e : (fun (y : List β × S) => k (acc ++ z.1 :: y.1, y.2)) = fun y => k ((acc ++ [z.1]) ++ y.1, y.2) := by
        funext y
        rw [List.append_assoc]
        rfl
      rw [← e]
      exact h2
  · have e : n = xs.length := by omega
    subst e
    rw [List.drop_eq_nil_of_le (Nat.le_refl _)] at h'
    have h' : wp (k (acc ++ [], s1)) P X := h'
    rw [List.append_nil] at h'
    refine .inl ⟨hJ.stop _ EJ (Nat.le_refl _), next acc s1 I' H' _ ?_ h'⟩
    -- the entry back, the walk's entries gone
    have E7 : Env K I' H' (σ.set i none) ((G s1).set i .any) (ρe ++ (o :: some (.ref D) :: ρ)) (Θe ++ (c :: .own acc :: Θ)) := by
      refine ⟨EJ.1, by have := EJ.2.1; simp only [List.length_append, List.length_cons] at this ⊢; omega, EJ.2.2.perm ((List.Perm.refl _).append ?_)⟩
      rw [List.zip_append hJ.len, List.zip_append hJ.len]
      exact (List.Perm.refl _).append (.swap _ _ _)
    exact (E7.drops hJ.len).again ho (hΓ s1)

/-! ### items of owned lists of lists -/
def mSet {α : Type} (m : Mat α) (i j : Int) (y : α) : Res (Mat α) := (lGet m.rows i).bind fun r => (lSet r j y).bind fun r' => (lSet m.rows i r').bind fun rows => .ok ⟨rows⟩
def mGet {α : Type} (m : Mat α) (i j : Int) : Res α := (lGet m.rows i).bind fun r => lGet r j
def mPut {α : Type} (m : Mat α) (i : Int) (r : List α) (j : Int) (y : α) : Res (Mat α) := (lSet r j y).bind fun r' => (lSet m.rows i r').bind fun rows => .ok ⟨rows⟩
noncomputable def mApp {α : Type} (m : Mat α) (i : Int) (y : α) : Res (Mat α) := (lGet m.rows i).bind fun r => (lApp r y).bind fun r' => (lSet m.rows i r').bind fun rows => .ok ⟨rows⟩
theorem Env.matAt [Rep α] {m : Mat α} {pn : Option V} (E : Env K I H σ Γ ρ Θ) (h : Γ[i]? = some (.own m pn)) : ∃ p vs, σ[i]? = some (some (.ref p)) ∧ H p = some (.lst vs) ∧ vs.length = m.rows.length ∧
    ∀ (j : Nat) (r : List α), m.rows[j]? = some r → ∃ q ws, vs[j]? = some (.ref q) ∧ H q = some (.lst ws) ∧ Paired (fun v x => Rep.rp K I v x) ws r ∧
      ∀ (ws' : List V) (r' : List α), Paired (fun v x => Rep.rp K I v x) ws' r' → Env K I (upd H q (.lst ws')) σ (Γ.set i (.own (Mat.mk (m.rows.set j r')) pn)) ρ Θ := by
  obtain ⟨o, r, ho, e, back⟩ := E.pick h
  obtain ⟨p, vs, e1, hp, hl, at_⟩ := e.ownM
  subst e1
  have ss : σ.set i (some (V.ref p)) = σ := set_same ho
  refine ⟨p, vs, ho, hp, hl, fun j r hr => ?_⟩
  obtain ⟨q, ws, a, b, c, ch⟩ := at_ j r hr
  refine ⟨q, ws, a, b, c, fun ws' r' pr => ?_⟩
  have z := back _ _ (ch ws' r' pr)
  rw [ss] at z
  exact z
theorem atI_ix {α : Type} {xs : List α} {i : Int} {x : α} (h : atI xs i = some x) : ∃ n, ixN xs.length i = some n ∧ xs[n]? = some x := by
  unfold atI at h
  cases e : ixN xs.length i with
  | none => rw [e] at h; cases h
  | some n => rw [e] at h; exact ⟨n, rfl, h⟩
theorem lSet_of {α : Type} {xs : List α} {i : Int} {n : Nat} {y : α} (h : ixN xs.length i = some n) : lSet xs i y = .ok (xs.set n y) := by unfold lSet; rw [h]
/-- marks[i][j] = e -/
theorem st_setM [Rep α] {m : Mat α} {y : α} {t1 t2 : TE} {m1 m2 : Res Int} {k : Mat α → Res ω} {Γ' : Mat α → List Cell} {pn : Option V} {dn : L2.St → Hp → Prop} (E : Env K I H σ Γ (some v :: ρ) (.im y :: Θ)) (hΓ : Γ[i]? = some (.own m pn)) (h1 : HF K t1 Γ m1) (h2 : HF K t2 Γ m2)
    (h : wp (m1.bind fun a => (lGet m.rows a).bind fun r => m2.bind fun b => (mPut m a r b y).bind k) P X) (hs : ∀ x, Γ.set i (.own x pn) = Γ' x) (next : ∀ ys H', Env K I H' σ (Γ' ys) ρ Θ → wp (k ys) P X → dn σ H') : gSub (tOp (rIxL K) (tVar i) t1) t2 rSetL v σ H dn := by
  obtain ⟨p, vs, hs1, hp, hl, at_⟩ := E.matAt hΓ
  refine ⟨_, hs1, h1.run X _ E (wpb h fun a h _ => ?_)⟩
  unfold lGet at h
  cases ea : atI m.rows a with
  | none => rw [ea] at h; exact h.elim
  | some r =>
    rw [ea, Res.bind_ok] at h
    obtain ⟨n, en, er⟩ := atI_ix ea
    obtain ⟨q, ws, e1, hq, pr, ch⟩ := at_ n r er
    refine ⟨p, vs, a, .ref q, rfl, rfl, SqL.of hp, ?_, ?_⟩
    · unfold atI
      rw [hl, en]
      exact e1
    · refine h2.run X _ E (wpb h fun b h _ => ?_)
      unfold mPut lSet at h
      cases eb : ixN r.length b with
      | none => rw [eb] at h; exact h.elim
      | some n2 =>
        rw [eb, Res.bind_ok, en, Res.bind_ok, Res.bind_ok] at h
        refine ⟨q, ws, b, n2, rfl, rfl, hq, by rw [Paired.length pr]; exact eb, ?_⟩
        have z := (ch _ _ (paired_set E.topR (k := n2) pr)).pop
        rw [hs] at z
        exact next _ _ z h
/-- marks[i][j] -/
theorem hf_mGet [Sca α] {m : Mat α} {pn : Option V} {t1 t2 : TE} {m1 m2 : Res Int} (hΓ : Γ[i]? = some (.own m pn)) (h1 : HF K t1 Γ m1) (h2 : HF K t2 Γ m2) : HF K (tOp (rIxL K) (tOp (rIxL K) (tVar i) t1) t2) Γ (m1.bind fun a => (lGet m.rows a).bind fun r => m2.bind fun b => lGet r b) := .mk fun X Q E q => by
  obtain ⟨p, vs, hs1, hp, hl, at_⟩ := E.matAt hΓ
  refine ⟨_, hs1, h1.run X _ E (wpb q fun a q _ => ?_)⟩
  unfold lGet at q
  cases ea : atI m.rows a with
  | none => rw [ea] at q; exact q.elim
  | some r =>
    rw [ea, Res.bind_ok] at q
    obtain ⟨n, en, er⟩ := atI_ix ea
    obtain ⟨w, ws, e1, hq, pr, ch⟩ := at_ n r er
    refine ⟨p, vs, a, .ref w, rfl, rfl, SqL.of hp, ?_, ?_⟩
    · unfold atI
      rw [hl, en]
      exact e1
    · refine h2.run X _ E (wpb q fun b q _ => ?_)
      cases eb : atI r b with
      | none => rw [eb] at q; exact q.elim
      | some x =>
        rw [eb] at q
        obtain ⟨u, e2, r2⟩ := atI_paired pr eb
        have r' : u = enc x ∧ okv x := r2
        refine ⟨w, ws, b, u, rfl, rfl, SqL.of hq, e2, ?_⟩
        rw [r'.1]
        exact q r'.2
end
end M
namespace M
open PySem PySem.Spec PyProof.Rows L2
/-- how many steps of `c` a range has -/
def stepN (a b c : Int) : Nat := (Builtin.Range.rangeSize a b c).toNat
def stepL (a b c : Int) : List Int := (List.range (stepN a b c)).map fun (k : Nat) => a + (k : Int) * c
open Classical in
noncomputable def rngS (a b c : Int) : Res (List Int) := clo (if c.natAbs < 1073741824 ∧ RgC a b c (stepN a b c) then .ok (stepL a b c) else .bad)
section
variable {K : PySem.W.Frag} {mg : Str → Option Value} {I H I' H' : Hp} {σ σ' ρ : List (Option V)} {Γ Γ' Θ : List Cell} {i j n : Nat} {v v1 v2 v3 : V} {c c1 c2 : Cell} {o : Option V} {te tl ti : TE} {ta : TA} {tt : TT} {t u : TS}
variable {ω : Type} {P : ω → Prop} {X : Exn → Prop} {α β γ δ : Type}
theorem it_rngc0 {R : It → Hp → Prop} {lo c : Int} {n : Nat} (next : ∀ J, Feeds K J ((List.range n).map fun (i : Nat) => lo + (i : Int) * c) [] [] → R J H) : R (Itc lo c n) H := by
  refine next _ ⟨rfl, fun i _ hi => (show i < n by simpa using hi), fun {I H} {_ _} {_ _} i x H' a E hx hy => ?_, fun i _ hi => (show n ≤ i by simpa using hi)⟩
  obtain ⟨rfl, rfl⟩ := hy
  refine ⟨I, Grow.refl E.same, ?_⟩
  have hi : i < n := by
    have := (List.getElem?_eq_some_iff.mp hx).1
    simpa using this
  have e : lo + (i : Int) * c = a := by
    rw [List.getElem?_map, List.getElem?_range hi] at hx
    exact Option.some.inj hx
  exact ⟨by rw [e]; rfl, trivial⟩
theorem it_rng3 {R : It → Hp → Prop} {t1 t2 t3 : TE} {m1 m2 m3 : Res Int} {k : List Int → Res ω} (E : Env K I H σ Γ ρ Θ) (h1 : HF K t1 Γ m1) (h2 : HF K t2 Γ m2) (h3 : HF K t3 Γ m3) (h : wp (m1.bind fun a => m2.bind fun b => m3.bind fun d => (rngS a b d).bind k) P X)
    (next : ∀ xs, wp (k xs) P X → ∀ J, Feeds K J xs [] [] → R J H) : iRng3 (tCons t1 (tCons t2 (tCons t3 tNil))) σ H R := h1.run X _ E (wpb h fun a h _ => h2.run X _ E (wpb h fun b h _ => h3.run X _ E (wpb h fun d h _ => by
  unfold rngS at h
  rw [clo_eq] at h
  by_cases hr : d.natAbs < 1073741824 ∧ RgC a b d (stepN a b d)
  · rw [if_pos hr] at h
    exact ⟨a, b, d, _, rfl, hr.2, it_rngc0 (next _ h)⟩
  · rw [if_neg hr] at h
    exact h.elim)))
end
/-- what a range of steps up holds -/
theorem stepN_up {a b c : Int} (hc : 0 < c) : stepN a b c = ((b - a + c - 1) / c).toNat := by
  unfold stepN Builtin.Range.rangeSize
  rw [if_pos (show c > 0 from hc)]
  by_cases h : a < b
  · rw [if_pos h]
    have : b - a + c - 1 = (b - a - 1) + 1 * c := by omega
    rw [this, Int.add_mul_ediv_right _ _ (by omega)]
  · rw [if_neg h]
    by_cases e : b - a + c - 1 < 0
    · have := Int.ediv_neg_of_neg_of_pos e hc
      omega
    · rw [Int.ediv_eq_zero_of_lt (by omega) (by omega)]
theorem mem_stepL_up {a b c x : Int} (hc : 0 < c) : x ∈ stepL a b c ↔ a ≤ x ∧ x < b ∧ ∃ k : Nat, x = a + (k : Int) * c := by
  unfold stepL
  rw [List.mem_map, stepN_up hc]
  constructor
  · rintro ⟨k, hk, rfl⟩
    rw [List.mem_range] at hk
    have h0 : (0 : Int) ≤ (k : Int) * c := Int.mul_nonneg (by omega) (by omega)
    refine ⟨by omega, ?_, k, rfl⟩
    have h1 : (k : Int) + 1 ≤ (b - a + c - 1) / c := by omega
    have h2 := (Int.le_ediv_iff_mul_le hc).mp h1
    have h3 : ((k : Int) + 1) * c = (k : Int) * c + c := by rw [Int.add_mul, Int.one_mul]
    omega
  · rintro ⟨h1, h2, k, rfl⟩
    refine ⟨k, ?_, rfl⟩
    rw [List.mem_range]
    have h3 : ((k : Int) + 1) * c = (k : Int) * c + c := by rw [Int.add_mul, Int.one_mul]
    have h4 : (k : Int) + 1 ≤ (b - a + c - 1) / c := (Int.le_ediv_iff_mul_le hc).mpr (by omega)
    omega
end M
namespace M
open PySem PySem.Spec PyProof.Rows L2
/-! ### values of several types: data -/
mutual
theorem dp_mono {K : PySem.W.Frag} {I J : Hp} (e : Same I J) : ∀ {v : V} {d : PyData}, Dp K I v d → Dp K J v d
  | _, _, .non => .non
  | _, _, .bl b => .bl b
  | _, _, .int i => .int i
  | _, _, .str x => .str x
  | _, _, .lst h t => .lst (e.seq h) (dpAll_mono e t)
  | _, _, .tup h t => .tup (same_seqT e h) (dpAll_mono e t)
theorem dpAll_mono {K : PySem.W.Frag} {I J : Hp} (e : Same I J) : ∀ {vs : List V} {ds : List PyData}, DpAll K I vs ds → DpAll K J vs ds
  | _, _, .nil => .nil
  | _, _, .cons h t => .cons (dp_mono e h) (dpAll_mono e t)
end
instance repDt : Rep PyData := ⟨fun K I v d => Dp K I v d, fun e h => dp_mono e h⟩
theorem dpAllD {K : PySem.W.Frag} {I : Hp} : ∀ {vs : List V} {ds : List PyData}, Paired (fun v d => Dp K I v d) vs ds → DpAll K I vs ds
  | _, _, .nil => .nil
  | _, _, .cons r t => .cons r (dpAllD t)
def isNonD : PyData → Bool
  | .none => true
  | _ => false
/-- what isinstance tells of data -/
def isD (T : String) : PyData → Bool
  | .none => T == "NoneType"
  | .bool _ => T == "bool" || T == "int"
  | .int _ => T == "int"
  | .str _ => T == "str"
  | .list _ => T == "list"
  | .tuple _ => T == "tuple"
  | .dict _ => T == "dict"
def eqV (x y : PyData) : Res Bool := if (SeqAt.shaped x && SeqAt.shaped y) = true then .ok (PyData.eqv x y) else .bad
def neV (x y : PyData) : Res Bool := if (SeqAt.shaped x && SeqAt.shaped y) = true then .ok (!PyData.eqv x y) else .bad
section
variable {K : PySem.W.Frag} {mg : Str → Option Value} {I H I' H' : Hp} {σ σ' ρ : List (Option V)} {Γ Γ' Θ : List Cell} {i j n : Nat} {v v1 v2 v3 : V} {c c1 c2 : Cell} {o : Option V} {te tl ti to : TE} {ta : TA} {tt : TT} {t u : TS} {dn db dc : L2.St → Hp → Prop} {dr : VK} {Q : VK} {W : WX}
variable {ω : Type} {P : ω → Prop} {X : Exn → Prop} {α β γ δ : Type}
/-- the top of the stack as data -/
theorem Env.toDt [Rep α] [DecidableEq α] [Dat α] {x : α} (E : Env K I H σ Γ (some v :: ρ) (.im x :: Θ)) : Env K I H σ Γ (some v :: ρ) (.im (Dat.toD x) :: Θ) := E.pop.push (a := Dat.toD x) (Dat.dp (α := α) E.topR)
theorem Env.unitDt {x : Unit} (E : Env K I H σ Γ (some v :: ρ) (.im x :: Θ)) : Env K I H σ Γ (some v :: ρ) (.im PyData.none :: Θ) := E.pop.push (a := PyData.none) (by
  have h : v = V.non ∧ True := E.topR
  rw [h.1]
  exact Dp.non)
theorem Env.tupDt {ds : List PyData} (E : Env K I H σ Γ (some v :: ρ) (.im (TupL.mk ds) :: Θ)) : Env K I H σ Γ (some v :: ρ) (.im (PyData.tuple ds) :: Θ) := E.pop.push (a := PyData.tuple ds) (by
  obtain ⟨a, vs, rfl, hq, p⟩ := E.topR
  exact .tup hq (dpAllD p))
theorem Env.lstDt {ds : List PyData} (E : Env K I H σ Γ (some v :: ρ) (.im ds :: Θ)) : Env K I H σ Γ (some v :: ρ) (.im (PyData.list ds) :: Θ) := E.pop.push (a := PyData.list ds) (by
  obtain ⟨a, vs, rfl, hq, p⟩ := E.topR
  exact .lst (SqL.of hq) (dpAllD p))
theorem st_eqV {x y : PyData} {k : Bool → Res ω} (E : Env K I H σ Γ (some v2 :: some v1 :: ρ) (.im y :: .im x :: Θ)) (h : wp ((eqV x y).bind k) P X)
    (next : ∀ b v, Env K I H σ Γ (some v :: ρ) (.im b :: Θ) → wp (k b) P X → Q v H) : OpG (rEqD K) v1 v2 H Q := by
  unfold eqV at h
  split at h
  · rename_i hb
    have hb := (Bool.and_eq_true _ _).mp hb
    exact ⟨_, _, dp_mono E.same (show Dp K I v1 x from E.pop.topR), dp_mono E.same (show Dp K I v2 y from E.topR), hb.1, hb.2, next _ _ (E.pop.pop.pushS (a := PyData.eqv x y) trivial) h⟩
  · exact h.elim
theorem st_neV {x y : PyData} {k : Bool → Res ω} (E : Env K I H σ Γ (some v2 :: some v1 :: ρ) (.im y :: .im x :: Θ)) (h : wp ((neV x y).bind k) P X)
    (next : ∀ b v, Env K I H σ Γ (some v :: ρ) (.im b :: Θ) → wp (k b) P X → Q v H) : OpG (rNeD K) v1 v2 H Q := by
  unfold neV at h
  split at h
  · rename_i hb
    have hb := (Bool.and_eq_true _ _).mp hb
    exact ⟨_, _, dp_mono E.same (show Dp K I v1 x from E.pop.topR), dp_mono E.same (show Dp K I v2 y from E.topR), hb.1, hb.2, next _ _ (E.pop.pop.pushS (a := !PyData.eqv x y) trivial) h⟩
  · exact h.elim
theorem Env.datAt {d : PyData} (E : Env K I H σ Γ ρ Θ) (h : Γ[i]? = some (.im d)) : ∃ v, σ[i]? = some (some v) ∧ Dp K I v d := by
  obtain ⟨v, hs, r⟩ := E.get h
  exact ⟨v, hs, r⟩
def rIsNn : R2 := fun x y H Q => y = .non ∧ Q (.bl (decide (x = .non))) H
def rNotNn : R2 := fun x y H Q => y = .non ∧ Q (.bl (!decide (x = .non))) H
theorem dp_non {d : PyData} (h : Dp K I v d) : decide (v = V.non) = isNonD d := by
  cases h <;> rfl
theorem hf_isNon {d : PyData} (hΓ : Γ[i]? = some (.im d)) : HF K (tOp rIsNn (tVar i) (tC .non)) Γ (.ok (isNonD d)) := .mk fun X Q E q => by
  obtain ⟨v, hs, r⟩ := E.datAt hΓ
  refine ⟨v, hs, rfl, ?_⟩
  rw [dp_non r]
  exact q trivial
theorem hf_notNon {d : PyData} (hΓ : Γ[i]? = some (.im d)) : HF K (tOp rNotNn (tVar i) (tC .non)) Γ (.ok (!isNonD d)) := .mk fun X Q E q => by
  obtain ⟨v, hs, r⟩ := E.datAt hΓ
  refine ⟨v, hs, rfl, ?_⟩
  rw [dp_non r]
  exact q trivial
theorem dp_ty {d : PyData} (h : Dp K H v d) : ∃ t : String, TyX K H v (.type t) ∧ ∀ T : String, (T = "int" ∨ T = "bool" ∨ T = "str" ∨ T = "list" ∨ T = "tuple") → ∀ K, PySem.W.kitOne K (.type t) (.type T) = some (isD T d) := by
  cases h with
  | non => exact ⟨_, .base .non, fun T hT K => by rcases hT with rfl | rfl | rfl | rfl | rfl <;> rfl⟩
  | bl b => exact ⟨_, .base (.bl b), fun T hT K => by rcases hT with rfl | rfl | rfl | rfl | rfl <;> rfl⟩
  | int i => exact ⟨_, .base (.int i), fun T hT K => by rcases hT with rfl | rfl | rfl | rfl | rfl <;> rfl⟩
  | str x => exact ⟨_, .base (.str x), fun T hT K => by rcases hT with rfl | rfl | rfl | rfl | rfl <;> rfl⟩
  | lst h t =>
    refine ⟨"list", ?_, fun T hT K => by rcases hT with rfl | rfl | rfl | rfl | rfl <;> rfl⟩
    rcases h with (h | ⟨o, h⟩) | ⟨o, _, _, h1, h2, _⟩
    · exact .base (.lst h)
    · exact .base (.frz h)
    · exact .kList h1 h2
  | tup h t =>
    refine ⟨"tuple", ?_, fun T hT K => by rcases hT with rfl | rfl | rfl | rfl | rfl <;> rfl⟩
    rcases h with (h | ⟨o, h⟩) | ⟨o, _, _, h1, h2, _⟩
    · exact .base (.tup h)
    · exact .fTuple h
    · exact .kTuple h1 h2
theorem hf_isDt {d : PyData} {T : String} (hΓ : Γ[i]? = some (.im d)) (hT : T = "int" ∨ T = "bool" ∨ T = "str" ∨ T = "list" ∨ T = "tuple") : HF K (tIsi K i T) Γ (.ok (isD T d)) := .mk fun X Q E q => by
  obtain ⟨v, hs, r⟩ := E.datAt hΓ
  obtain ⟨t, ty, k⟩ := dp_ty (dp_mono E.same r)
  exact ⟨v, hs, _, _, _, _, _, rfl, .ty T, ty, k T hT K, q trivial⟩
/-! ### range with calls in it: its ends on the stack -/
def RgG1 (vs : List V) (H1 : Hp) (R : It → Hp → Prop) : Prop := ∃ j, vs = [V.int j] ∧ -2 ^ 62 ≤ j ∧ j < 2 ^ 62 ∧ R (Itr 0 j.toNat) H1
def RgG2 (vs : List V) (H1 : Hp) (R : It → Hp → Prop) : Prop := ∃ i j, vs = [V.int i, V.int j] ∧ (-2 ^ 62 ≤ i ∧ i < 2 ^ 62 ∧ -2 ^ 62 ≤ j ∧ j < 2 ^ 62) ∧ R (Itr i (j - i).toNat) H1
theorem uRng1 {R : It → Hp → Prop} (h : ta σ H fun vs H1 => RgG1 vs H1 R) : iRng1 ta σ H R := h
theorem uRng2 {R : It → Hp → Prop} (h : ta σ H fun vs H1 => RgG2 vs H1 R) : iRng2 ta σ H R := h
theorem it_rng1S {R : It → Hp → Prop} {b : Int} {k : List Int → Res ω} (E : Env K I H σ Γ (some v :: ρ) (.im b :: Θ)) (h : wp ((rngR 0 b).bind k) P X)
    (next : ∀ xs, wp (k xs) P X → Env K I H σ Γ ρ Θ → ∀ J, Feeds K J xs [] [] → R J H) : RgG1 [v] H R := by
  have e := E.topS
  unfold rngR at h
  rw [clo_eq] at h
  by_cases hr : RgOk 0 b
  · rw [if_pos hr] at h
    have e2 : (b - 0).toNat = b.toNat := by omega
    unfold rng at h
    rw [e2] at h
    exact ⟨b, by rw [e.1]; rfl, hr.2.2.1, hr.2.2.2, it_rng0 (next _ h E.pop)⟩
  · rw [if_neg hr] at h
    exact h.elim
theorem it_rng2S {R : It → Hp → Prop} {a b : Int} {k : List Int → Res ω} (E : Env K I H σ Γ (some v2 :: some v1 :: ρ) (.im b :: .im a :: Θ)) (h : wp ((rngR a b).bind k) P X)
    (next : ∀ xs, wp (k xs) P X → Env K I H σ Γ ρ Θ → ∀ J, Feeds K J xs [] [] → R J H) : RgG2 [v1, v2] H R := by
  have e := E.topS
  have e1 := E.pop.topS
  unfold rngR at h
  rw [clo_eq] at h
  by_cases hr : RgOk a b
  · rw [if_pos hr] at h
    exact ⟨a, b, by rw [e.1, e1.1]; rfl, hr, it_rng0 (next _ h E.pop.pop)⟩
  · rw [if_neg hr] at h
    exact h.elim
/-! ### ''.join -/
end
def joinT (sep : Tx) : List Tx → Tx
  | [] => []
  | x :: xs => xs.foldl (fun acc p => acc ++ sep ++ p) x
noncomputable def lJoin (sep : Tx) (xs : List Tx) : Res Tx := clo (if (xs.map (·.length)).sum + xs.length * sep.length ≤ 16777216 then .ok (joinT sep xs) else .bad)
theorem foldl_join (sep : Tx) : ∀ (xs : List Tx) (acc : Tx), (xs.map mkS).foldl (fun (acc : Array Nat) p => acc ++ (mkS sep).cps ++ p.cps) acc.toArray = (xs.foldl (fun acc p => acc ++ sep ++ p) acc).toArray
  | [], acc => rfl
  | x :: xs, acc => by
    rw [List.map_cons, List.foldl_cons, List.foldl_cons, ← foldl_join sep xs]
    congr 1
    show acc.toArray ++ sep.toArray ++ x.toArray = _
    rw [List.append_toArray, List.append_toArray]
theorem join_mk (sep : Tx) (xs : List Tx) : Txt.join (mkS sep) (xs.map mkS) = mkS (joinT sep xs) := by
  cases xs with
  | nil => rfl
  | cons x xs =>
    show Str.mk _ = Str.mk _
    congr 1
    exact foldl_join sep xs x
theorem foldl_join_len (sep : Tx) : ∀ (xs : List Tx) (acc : Tx), (xs.foldl (fun acc p => acc ++ sep ++ p) acc).length = acc.length + (xs.map (·.length)).sum + xs.length * sep.length
  | [], acc => by simp
  | x :: xs, acc => by
    rw [List.foldl_cons, foldl_join_len sep xs, List.map_cons, List.sum_cons, List.length_cons, Nat.add_mul, Nat.one_mul, List.length_append, List.length_append]
    omega
theorem joinT_len (sep : Tx) (xs : List Tx) : (joinT sep xs).length ≤ (xs.map (·.length)).sum + xs.length * sep.length := by
  cases xs with
  | nil => exact Nat.zero_le _
  | cons x xs =>
    show (xs.foldl (fun acc p => acc ++ sep ++ p) x).length ≤ _
    rw [foldl_join_len, List.map_cons, List.sum_cons, List.length_cons, Nat.add_mul]
    omega
theorem joinT_nil (xs : List Tx) : joinT [] xs = xs.flatten := by
  cases xs with
  | nil => rfl
  | cons x xs =>
    show xs.foldl (fun acc p => acc ++ [] ++ p) x = _
    rw [List.flatten_cons]
    have : ∀ (xs : List Tx) (acc : Tx), xs.foldl (fun acc p => acc ++ [] ++ p) acc = acc ++ xs.flatten := by
      intro xs
      induction xs with
      | nil => intro acc; simp
      | cons y ys ih => intro acc; rw [List.foldl_cons, ih, List.flatten_cons]; simp
    exact this xs x
section
variable {K : PySem.W.Frag} {mg : Str → Option Value} {I H I' H' : Hp} {σ σ' ρ : List (Option V)} {Γ Γ' Θ : List Cell} {i j n : Nat} {v v1 v2 v3 : V} {c c1 c2 : Cell} {o : Option V} {te tl ti to : TE} {ta : TA} {tt : TT} {t u : TS} {dn db dc : L2.St → Hp → Prop} {dr : VK} {Q : VK} {W : WX}
variable {ω : Type} {P : ω → Prop} {X : Exn → Prop} {α β γ δ : Type}
abbrev rJoin (K : PySem.W.Frag) : V → List V → Hp → VK → Prop := fun x xs H Q => ∃ a p, ∃ ys : List Str, x = .str a ∧ xs = [.ref p] ∧ (SqL K H p (ys.map V.str) ∨ SqT K H p (ys.map V.str)) ∧
      (ys.map (·.length)).sum + ys.length * a.length ≤ 16777216 ∧ Q (.str (Txt.join a ys)) H
def JnG (K : PySem.W.Frag) : V → List V → Hp → VK → Prop := rJoin K
theorem uJoin (h : to σ H fun x H1 => (∃ a, x = V.str a) ∧ te σ H1 fun y H2 => JnG K x [y] H2 Q) : tM1 (rJoin K) to te σ H Q := h
theorem paired_txt {I : Hp} : ∀ {vs : List V} {xs : List Tx}, Paired (fun v x => Rep.rp K I v x) vs xs → vs = (xs.map mkS).map V.str
  | _, _, .nil => rfl
  | _, _, .cons r t => by
    rw [List.map_cons, List.map_cons, paired_txt t]
    congr 1
    exact r.1
theorem st_joinA {sep : Tx} (E : Env K I H σ Γ (some v :: ρ) (.im sep :: Θ)) : ∃ a, v = V.str a := ⟨_, E.topS.1⟩
theorem st_join {sep : Tx} {xs : List Tx} {k : Tx → Res ω} (E : Env K I H σ Γ (some v2 :: some v1 :: ρ) (.im xs :: .im sep :: Θ)) (h : wp ((lJoin sep xs).bind k) P X)
    (next : ∀ t v, Env K I H σ Γ (some v :: ρ) (.im t :: Θ) → wp (k t) P X → Q v H) : JnG K v1 [v2] H Q := by
  unfold lJoin at h
  rw [clo_eq] at h
  obtain ⟨a, vs, rfl, hq, pr⟩ := E.topR
  have e1 := E.pop.topS
  have ll : ∀ xs : List Tx, ((xs.map mkS).map (·.length)).sum = (xs.map (·.length)).sum := by
    intro xs
    induction xs with
    | nil => rfl
    | cons x xs ih => simp only [List.map_cons, List.sum_cons, ih]; congr 1
  by_cases hb : (xs.map (·.length)).sum + xs.length * sep.length ≤ 16777216
  · rw [if_pos hb] at h
    refine ⟨_, a, xs.map mkS, e1.1, rfl, .inl (SqL.of (by rw [← paired_txt pr]; exact E.same _ _ hq)), ?_, ?_⟩
    · rw [ll, List.length_map]
      exact hb
    · rw [join_mk]
      exact next _ _ (E.pop.pop.pushS (a := joinT sep xs) (Nat.le_trans (joinT_len sep xs) hb)) h
  · rw [if_neg hb] at h
    exact h.elim
/-! ### text.index(t) -/
noncomputable def xIndex (a b : Tx) : Res Int := clo (match Builtin.Str.occurrences (mkS a) (mkS b) 0 (mkS a).length 1 with
  | i :: _ => .ok (i : Int)
  | [] => .bad)
def rIndexT : V → List V → Hp → VK → Prop := fun x xs H Q => ∃ a b i rest, x = .str a ∧ xs = [.str b] ∧ Builtin.Str.occurrences a b 0 a.length 1 = i :: rest ∧ Q (.int (i : Nat)) H
theorem hf_index {tb tc : TE} {m1 m2 : Res Tx} (h1 : HF K tb Γ m1) (h2 : HF K tc Γ m2) : HF K (tM1 rIndexT tb tc) Γ (m1.bind fun a => m2.bind fun b => xIndex a b) := .mk fun X Q E q =>
  h1.run X _ E (wpb q fun a q oa => ⟨⟨_, rfl⟩, h2.run X _ E (wpb q fun b q ob => by
    unfold xIndex at q
    rw [clo_eq] at q
    cases e : Builtin.Str.occurrences (mkS a) (mkS b) 0 (mkS a).length 1 with
    | nil => rw [e] at q; exact q.elim
    | cons i rest =>
      rw [e] at q
      exact ⟨_, _, i, rest, rfl, rfl, e, q trivial⟩)⟩)
end
end M
namespace M
open PySem PySem.Spec PyProof.Rows L2
/-! ### loops over owned lists that the body leaves alone -/
section
variable {K : PySem.W.Frag} {mg : Str → Option Value} {I H I' H' : Hp} {σ σ' ρ : List (Option V)} {Γ Γ' Θ : List Cell} {i j n : Nat} {v v1 v2 v3 : V} {c c1 c2 : Cell} {o : Option V} {te tl ti to : TE} {ta : TA} {tt : TT} {t u : TS} {dn db dc : L2.St → Hp → Prop} {dr : VK} {Q : VK} {W : WX}
variable {ω : Type} {P : ω → Prop} {X : Exn → Prop} {α β γ δ : Type}
/-- the walk J yields xs, as long as C is true of the names -/
structure FeedsC (K : PySem.W.Frag) (J : It) {α : Type} [Rep α] (xs : List α) (C : List Cell → Prop) : Prop where
  go : ∀ {I H : Hp} {σ ρ : List (Option V)} {Γ Θ : List Cell} (i : Nat), Env K I H σ Γ ρ Θ → C Γ → i < xs.length → J.go i H
  yld : ∀ {I H : Hp} {σ ρ : List (Option V)} {Γ Θ : List Cell} (i : Nat) (x : V) (H' : Hp) (a : α), Env K I H σ Γ ρ Θ → C Γ → xs[i]? = some a → J.yld i H x H' → ∃ I', Grow I H I' H' ∧ Rep.rp K I' x a
  stop : ∀ {I H : Hp} {σ ρ : List (Option V)} {Γ Θ : List Cell} (i : Nat), Env K I H σ Γ ρ Θ → C Γ → xs.length ≤ i → J.stop i H
theorem Env.pinL {α : Type} [Rep α] {xs : List α} {pn pn' : Option V} (E : Env K I H σ Γ ρ Θ) (h : Γ[j]? = some (.own xs pn)) (hp : ∀ v w, σ[j]? = some (some v) → pn' = some w → v = w) : Env K I H σ (Γ.set j (.own xs pn')) ρ Θ := by
  obtain ⟨o, r, ho, e, back⟩ := E.pick h
  obtain ⟨p, vs, e1, _⟩ := id e.ownL
  subst e1
  have z := back (some (V.ref p)) (.own xs pn') (e.repin fun w hw => hp _ w ho hw)
  have ss : σ.set j (some (V.ref p)) = σ := set_same ho
  rw [ss] at z
  exact z
theorem Env.unpinL {α : Type} [Rep α] {xs : List α} {pn : Option V} (E : Env K I H σ Γ ρ Θ) (h : Γ[j]? = some (.own xs pn)) : Env K I H σ (Γ.set j (.own xs none)) ρ Θ := E.pinL h fun _ _ _ e => nomatch e
theorem Env.pinAt {α : Type} [Rep α] {xs : List α} {w : V} (E : Env K I H σ Γ ρ Θ) (h : Γ[j]? = some (.own xs (some w))) : σ[j]? = some (some w) := by
  obtain ⟨o, r, ho, e, back⟩ := E.pick h
  obtain ⟨p, vs, e1, _⟩ := id e.ownL
  subst e1
  rw [ho, e.pin w rfl]
theorem it_own {α : Type} [Rep α] {R : It → Hp → Prop} {xs : List α} {pn : Option V} (E : Env K I H σ Γ ρ Θ) (hΓ : Γ[j]? = some (.own xs pn))
    (next : ∀ a, Env K I H σ (Γ.set j (.own xs (some (.ref a)))) ρ Θ → FeedsC K (Itl K a) xs (fun Γ => Γ[j]? = some (.own xs (some (.ref a)))) → R (Itl K a) H) : iList K (tVar j) σ H R := by
  obtain ⟨p, vs, hs, hp, _, r, _⟩ := E.ownAt hΓ
  have at_ : ∀ {I H : Hp} {σ ρ : List (Option V)} {Γ Θ : List Cell}, Env K I H σ Γ ρ Θ → Γ[j]? = some (.own xs (some (.ref p))) → ∃ vs, H p = some (.lst vs) ∧ Paired (fun v x => Rep.rp K I v x) vs xs := by
    intro I H σ ρ Γ Θ E h
    obtain ⟨q, vs, hs, hq, _, r, _⟩ := E.ownAt h
    have e := E.pinAt h
    rw [hs] at e
    cases e
    exact ⟨vs, hq, r⟩
  refine ⟨_, hs, p, rfl, ⟨vs, SqL.of hp⟩, next p (E.pinL hΓ fun v w h1 h2 => ?_) ⟨fun {I H} {_ _} {_ _} i E' h hi => ?_, fun {I H} {_ _} {_ _} i x H' b E' h hx hy => ?_, fun {I H} {_ _} {_ _} i E' h hi => ?_⟩⟩
  · rw [hs] at h1
    cases h1
    cases h2
    rfl
  · obtain ⟨vs, hq, r⟩ := at_ E' h
    have hl : vs.length = xs.length := Paired.length r
    exact ⟨vs, vs[i]'(by omega), SqL.of hq, List.getElem?_eq_getElem (by omega)⟩
  · obtain ⟨vs, hq, r⟩ := at_ E' h
    obtain ⟨rfl, hy⟩ := hy
    exact ⟨I, Grow.refl E'.same, paired_at r (hy _ (SqL.of hq)) hx⟩
  · obtain ⟨vs, hq, r⟩ := at_ E' h
    have hl : vs.length = xs.length := Paired.length r
    exact ⟨vs, SqL.of hq, by omega⟩
theorem st_forC {α ρτ S : Type} [Rep α] {xs : List α} {J : It} {C : List Cell → Prop} {g : TG} {tb : TS} {f : α → S → Res (Fl ρτ S)} {k : Lp ρτ S → Res ω} {s0 : S} (hJ : FeedsC K J xs C) (R : ρτ → Prop) (G : S → List Cell) (hC : ∀ s, C (G s))
    (E : Env K I H σ Γ ρ Θ) (w : Wk Γ (G s0)) (h : wp ((forR f xs s0).bind k) P X) (ret : ∀ r, wp (k (.ret r)) P X → R r)
    (turn : ∀ x s I' H' σ' y (N B : L2.St → Hp → Prop), Env K I' H' σ' (G s) (some y :: ρ) (.im x :: Θ) → wp (f x s) (TurnP K G ρ Θ N B R) X → g y σ' H' fun σ2 H2 => tb ⟨N, dr, B, N⟩ σ2 H2)
    (rest : ∀ s I' H' σ', Env K I' H' σ' (G s) ρ Θ → wp (k (.fin s)) P X → dn σ' H') :
    ∃ W : Nat → Nat → L2.St → Hp → Prop, (∃ m, W 0 m σ H) ∧ ∀ i m σ H, W i m σ H →
      (J.stop i H ∧ dn σ H) ∨ (J.go i H ∧ ∃ N : L2.St → Hp → Prop, (∀ σ' H', N σ' H' → ∃ m', m' < m ∧ W (i + 1) m' σ' H') ∧ ∀ x H', J.yld i H x H' → g x σ H' fun σ2 H2 => tb ⟨N, dr, dn, N⟩ σ2 H2) := by
  refine ⟨fun i m σ' H' => m = xs.length - i ∧ i ≤ xs.length ∧ ∃ s I', Env K I' H' σ' (G s) ρ Θ ∧ wp ((forR f (xs.drop i) s).bind k) P X, ⟨xs.length, by simp, Nat.zero_le _, s0, I, E.weak w, h⟩, ?_⟩
  rintro i m σ' H' ⟨rfl, hi, s, I', E', h'⟩
  by_cases hlt : i < xs.length
  · have hx : xs[i]? = some xs[i] := List.getElem?_eq_getElem hlt
    rw [forR_at hx, Res.bind_assoc] at h'
    refine .inr ⟨hJ.go i E' (hC s) hlt, fun σ2 H2 => ∃ s I', Env K I' H2 σ2 (G s) ρ Θ ∧ wp ((forR f (xs.drop (i + 1)) s).bind k) P X, fun σ2 H2 z => ⟨xs.length - (i + 1), by omega, rfl, hlt, z⟩, fun y H2 hyl => ?_⟩
    obtain ⟨I2, g2, ry⟩ := hJ.yld i y H2 _ E' (hC s) hx hyl
    refine turn _ s I2 H2 σ' y _ _ ((E'.grow g2).push ry) (wpb h' fun z q => ?_)
    cases z with
    | nx s' => exact fun I2 H2 σ2 E2 => ⟨s', I2, E2, q⟩
    | bk s' => exact fun I2 H2 σ2 E2 => rest s' I2 H2 σ2 E2 q
    | rt r => exact ret r q
  · have e : i = xs.length := by omega
    subst e
    rw [List.drop_eq_nil_of_le (Nat.le_refl _)] at h'
    exact .inl ⟨hJ.stop _ E' (hC s) (Nat.le_refl _), rest s I' H' σ' E' h'⟩
theorem st_forSC {α S : Type} [Rep α] {xs : List α} {J : It} {C : List Cell → Prop} {g : TG} {tb : TS} {f : α → S → Res S} {k : S → Res ω} {s0 : S} (hJ : FeedsC K J xs C) (G : S → List Cell) (hC : ∀ s, C (G s))
    (E : Env K I H σ Γ ρ Θ) (w : Wk Γ (G s0)) (h : wp ((forS f xs s0).bind k) P X)
    (turn : ∀ x s I' H' σ' y (N B : L2.St → Hp → Prop), Env K I' H' σ' (G s) (some y :: ρ) (.im x :: Θ) → wp (f x s) (fun s => ∀ I' H' σ', Env K I' H' σ' (G s) ρ Θ → N σ' H') X → g y σ' H' fun σ2 H2 => tb ⟨N, dr, B, N⟩ σ2 H2)
    (rest : ∀ s I' H' σ', Env K I' H' σ' (G s) ρ Θ → wp (k s) P X → dn σ' H') :
    ∃ W : Nat → Nat → L2.St → Hp → Prop, (∃ m, W 0 m σ H) ∧ ∀ i m σ H, W i m σ H →
      (J.stop i H ∧ dn σ H) ∨ (J.go i H ∧ ∃ N : L2.St → Hp → Prop, (∀ σ' H', N σ' H' → ∃ m', m' < m ∧ W (i + 1) m' σ' H') ∧ ∀ x H', J.yld i H x H' → g x σ H' fun σ2 H2 => tb ⟨N, dr, dn, N⟩ σ2 H2) := by
  refine ⟨fun i m σ' H' => m = xs.length - i ∧ i ≤ xs.length ∧ ∃ s I', Env K I' H' σ' (G s) ρ Θ ∧ wp ((forS f (xs.drop i) s).bind k) P X, ⟨xs.length, by simp, Nat.zero_le _, s0, I, E.weak w, h⟩, ?_⟩
  rintro i m σ' H' ⟨rfl, hi, s, I', E', h'⟩
  by_cases hlt : i < xs.length
  · have hx : xs[i]? = some xs[i] := List.getElem?_eq_getElem hlt
    rw [forS_at hx, Res.bind_assoc] at h'
    refine .inr ⟨hJ.go i E' (hC s) hlt, fun σ2 H2 => ∃ s I', Env K I' H2 σ2 (G s) ρ Θ ∧ wp ((forS f (xs.drop (i + 1)) s).bind k) P X, fun σ2 H2 z => ⟨xs.length - (i + 1), by omega, rfl, hlt, z⟩, fun y H2 hyl => ?_⟩
    obtain ⟨I2, g2, ry⟩ := hJ.yld i y H2 _ E' (hC s) hx hyl
    exact turn _ s I2 H2 σ' y _ _ ((E'.grow g2).push ry) (wpb h' fun s' q I3 H3 σ3 E3 => ⟨s', I3, E3, q⟩)
  · have e : i = xs.length := by omega
    subst e
    rw [List.drop_eq_nil_of_le (Nat.le_refl _)] at h'
    exact .inl ⟨hJ.stop _ E' (hC s) (Nat.le_refl _), rest s I' H' σ' E' h'⟩
end
end M
namespace M
open PySem PySem.Spec PyProof.Rows L2
/-! ### texts in lists; the least of some texts -/
theorem lt_str (a b : Tx) : W.dataLt (.str (mkS a)) (.str (mkS b)) = decide (a < b) := by
  show PyProof.Rows.lexLt itemOrd [Sum.inr (mkS a).cps.toList] [Sum.inr (mkS b).cps.toList] = _
  rw [mkS_list, mkS_list]
  by_cases e : a = b
  · subst e
    rw [show PyProof.Rows.lexLt itemOrd [Sum.inr a] [Sum.inr a] = false from (lex_self (O := itemOrd) (Sum.inr a) [] []).trans rfl, decide_eq_false (List.lt_irrefl _)]
  · have ne : (Sum.inr a : Int ⊕ List Nat) ≠ Sum.inr b := fun q => e (Sum.inr.inj q)
    rw [lex_diff (O := itemOrd) ne]
    rfl
def minT : Tx → List Tx → Tx := fun x xs => xs.foldl (fun a y => if xLt y a = true then y else a) x
theorem minD_txt : ∀ (xs : List Tx) (x : Tx), W.minD (PyData.str (mkS x)) (xs.map fun t => PyData.str (mkS t)) = .str (mkS (minT x xs)) := by
  intro xs
  induction xs with
  | nil => intro x; rfl
  | cons y ys ih =>
    intro x
    rw [List.map_cons]
    unfold W.minD minT
    rw [List.foldl_cons, List.foldl_cons]
    have ih : ∀ x : Tx, List.foldl (fun a y => if W.dataLt y a = true then y else a) (PyData.str (mkS x)) (ys.map fun t => PyData.str (mkS t)) = PyData.str (mkS (List.foldl (fun a y => if xLt y a = true then y else a) x ys)) := ih
    rw [lt_str]
    unfold xLt
    by_cases h : y < x
    · rw [decide_eq_true h, if_pos rfl, if_pos rfl]
      exact ih y
    · rw [decide_eq_false h, if_neg (by decide), if_neg (by decide)]
      exact ih x
theorem minT_mem : ∀ (xs : List Tx) (x : Tx), minT x xs ∈ x :: xs := by
  intro xs
  induction xs with
  | nil => intro x; exact List.mem_cons_self
  | cons y ys ih =>
    intro x
    have := ih (if xLt y x = true then y else x)
    show List.foldl _ _ _ ∈ _
    unfold minT at this
    rcases List.mem_cons.mp this with e | e
    · rw [List.foldl_cons, e]
      split <;> simp
    · exact List.mem_cons_of_mem _ (List.mem_cons_of_mem _ e)
theorem minT_le : ∀ (xs : List Tx) (x : Tx), ∀ y ∈ x :: xs, ¬ y < minT x xs := by
  intro xs
  induction xs with
  | nil =>
    intro x y hy
    have : y = x := by simpa using hy
    rw [this]
    exact List.lt_irrefl _
  | cons z zs ih =>
    intro x y hy
    have h := ih (if xLt z x = true then z else x)
    show ¬ y < List.foldl _ _ _
    rw [List.foldl_cons]
    unfold minT at h
    have h0 := h _ List.mem_cons_self
    unfold xLt at h h0 ⊢
    rcases List.mem_cons.mp hy with rfl | hy
    · by_cases c : z < y
      · rw [decide_eq_true c, if_pos rfl] at h0 ⊢
        exact fun q => h0 (List.lt_trans c q)
      · rw [decide_eq_false c, if_neg (by decide)] at h0 ⊢
        exact h0
    · rcases List.mem_cons.mp hy with rfl | hy
      · by_cases c : y < x
        · rw [decide_eq_true c, if_pos rfl] at h0 ⊢
          exact h0
        · rw [decide_eq_false c, if_neg (by decide)] at h0 ⊢
          intro q
          exact h0 (List.lt_of_le_of_lt (List.not_lt.mp c) q)
      · exact h y (List.mem_cons_of_mem _ hy)
def lMinT (xs : List Tx) : Res Tx := match xs with
  | [] => .bad
  | x :: xs => .ok (minT x xs)
def rMinT (K : PySem.W.Frag) : List V → Hp → VK → Prop := fun vs H Q => ∃ (a : Addr) (x : Tx) (xs : List Tx), vs = [V.ref a] ∧ SqL K H a (((x :: xs).map mkS).map V.str) ∧ Q (.str (mkS (minT x xs))) H
theorem dpTxt {K : PySem.W.Frag} {H : Hp} : ∀ xs : List Tx, DpAll K H ((xs.map mkS).map V.str) (xs.map fun t => PyData.str (mkS t))
  | [] => .nil
  | x :: xs => .cons (.str _) (dpTxt xs)
theorem cr_minT {X : Cx} (hc : X.calm = true) (hu : X.A.units + 64 < cLine) : CallR X (.builtin "min") (rMinT X.K) := by
  intro pins s σ H vs us Q I r h
  obtain ⟨a, x, xs, rfl, hs, q⟩ := h
  obtain ⟨its, rv, hl, _⟩ := I.list hs
  rw [Vals.ref1 r]
  obtain ⟨as, ra⟩ := Dp.readsAll I _ _ _ (dpTxt (x :: xs)) rv
  have dz : PyData.depthAll ((x :: xs).map fun t => PyData.str (mkS t)) = 0 := by
    generalize x :: xs = l
    induction l with
    | nil => rfl
    | cons y ys ih =>
      show max 0 (PyData.depthAll _) = 0
      rw [ih]
      rfl
  refine W.min_list_data (x := .str (mkS x)) (xs := xs.map fun t => .str (mkS t)) (I.ok.hd hc) hl.isList (by simpa using ra) ⟨fun u hu v hv => ?_, fun u hu => ?_⟩ (by rw [show PyData.str (mkS x) :: xs.map (fun t => PyData.str (mkS t)) = (x :: xs).map fun t => PyData.str (mkS t) from rfl, dz]; omega) fun i v h' tk bs hv rd hk => ?_
  · rw [show PyData.str (mkS x) :: xs.map (fun t => PyData.str (mkS t)) = (x :: xs).map fun t => PyData.str (mkS t) from rfl] at hu hv
    obtain ⟨t, _, rfl⟩ := List.mem_map.mp hu
    obtain ⟨t2, _, rfl⟩ := List.mem_map.mp hv
    rfl
  · rw [show PyData.str (mkS x) :: xs.map (fun t => PyData.str (mkS t)) = (x :: xs).map fun t => PyData.str (mkS t) from rfl] at hu
    obtain ⟨t, _, rfl⟩ := List.mem_map.mp hu
    exact fun e => nomatch e
  · rw [minD_txt] at rd
    cases rd
    exact ⟨.str _, H, I.kept hk, ⟨_, rfl⟩, q⟩
section
variable {K : PySem.W.Frag} {mg : Str → Option Value} {I H I' H' : Hp} {σ σ' ρ : List (Option V)} {Γ Γ' Θ : List Cell} {i j n : Nat} {v v1 v2 v3 : V} {c c1 c2 : Cell} {o : Option V} {te tl ti to : TE} {ta : TA} {tt : TT} {t u : TS} {dn db dc : L2.St → Hp → Prop} {dr : VK} {Q : VK} {W : WX}
variable {ω : Type} {P : ω → Prop} {X : Exn → Prop} {α β γ δ : Type} {pn : Option V}
theorem st_minT {xs : List Tx} {k : Tx → Res ω} (E : Env K I H σ Γ (some v :: ρ) (.im xs :: Θ)) (h : wp ((lMinT xs).bind k) P X) (next : ∀ t v, Env K I H σ Γ (some v :: ρ) (.im t :: Θ) → wp (k t) P X → Q v H) : CbG (rMinT K) [v] H Q := by
  obtain ⟨a, vs, rfl, hq, pr⟩ := E.topR
  cases xs with
  | nil => exact h.elim
  | cons x xs =>
    have ok : (minT x xs).length ≤ line := by
      have all : ∀ {vs : List V} {ys : List Tx}, Paired (fun v x => Rep.rp K I v x) vs ys → ∀ t ∈ ys, t.length ≤ line := by
        intro vs ys p
        induction p with
        | nil => intro t ht; simp at ht
        | cons r t ih =>
          intro z hz
          rcases List.mem_cons.mp hz with e | e
          · rw [e]; exact r.2
          · exact ih z e
      exact all pr _ (minT_mem xs x)
    refine ⟨a, x, xs, rfl, SqL.of (by rw [← paired_txt pr]; exact E.same _ _ hq), next _ _ (E.pop.pushS (a := minT x xs) ok) h⟩
/-! ### texts in lists -/
theorem inV_txts (x : Tx) : ∀ xs : List Tx, inV (.str (mkS x)) ((xs.map mkS).map V.str) = decide (x ∈ xs)
  | [] => by simp [inV]
  | y :: ys => by
    show (L2.eqV (.str (mkS y)) (.str (mkS x)) || inV (.str (mkS x)) ((ys.map mkS).map V.str)) = _
    rw [inV_txts x ys]
    have e : L2.eqV (.str (mkS y)) (.str (mkS x)) = decide (y = x) := mkS_beq y x
    rw [e]
    by_cases q : y = x
    · subst q; simp
    · have : ¬ x = y := fun z => q z.symm
      simp [q, this]
theorem flat_txts (ns : List Tx) : ((ns.map mkS).map V.str).all flatV = true := by
  rw [List.all_eq_true]
  intro x hx
  obtain ⟨n, _, rfl⟩ := List.mem_map.mp hx
  rfl
theorem hf_inT_of {xs : List Tx} {neg : Bool} {m : Res Tx} (hv : ∀ {I H : Hp} {σ ρ : List (Option V)} {Θ : List Cell}, Env K I H σ Γ ρ Θ → ∃ a vs, σ[j]? = some (some (.ref a)) ∧ H a = some (.lst vs) ∧ Paired (fun v x => Rep.rp K I v x) vs xs) (ht : HF K te Γ m) :
    HF K (tOp (rIn K neg) te (tVar j)) Γ (m.bind fun x => .ok (if neg = true then !decide (x ∈ xs) else decide (x ∈ xs))) := .mk fun X Q E q => ht.run X _ E (wpb q fun x q _ => by
  obtain ⟨a, vs, hs, ha, p⟩ := hv E
  have e := paired_txt p
  subst e
  refine ⟨_, hs, a, _, rfl, .inl (SqL.of ha), rfl, flat_txts _, ?_⟩
  show Q (.bl (if neg = true then !inV (.str (mkS x)) ((xs.map mkS).map V.str) else inV (.str (mkS x)) ((xs.map mkS).map V.str))) _
  rw [inV_txts]
  exact q trivial)
theorem hf_inTL {xs : List Tx} {m : Res Tx} (hΓ : Γ[j]? = some (.im xs)) (ht : HF K te Γ m) : HF K (tOp (rIn K false) te (tVar j)) Γ (m.bind fun x => .ok (decide (x ∈ xs))) := hf_inT_of (neg := false) (fun E => E.listAt hΓ) ht
theorem hf_inTO {xs : List Tx} {m : Res Tx} (hΓ : Γ[j]? = some (.own xs pn)) (ht : HF K te Γ m) : HF K (tOp (rIn K false) te (tVar j)) Γ (m.bind fun x => .ok (decide (x ∈ xs))) := hf_inT_of (neg := false) (fun E => E.ownAt' hΓ) ht
theorem hf_niTL {xs : List Tx} {m : Res Tx} (hΓ : Γ[j]? = some (.im xs)) (ht : HF K te Γ m) : HF K (tOp (rIn K true) te (tVar j)) Γ (m.bind fun x => .ok (!decide (x ∈ xs))) := hf_inT_of (neg := true) (fun E => E.listAt hΓ) ht
theorem hf_niTO {xs : List Tx} {m : Res Tx} (hΓ : Γ[j]? = some (.own xs pn)) (ht : HF K te Γ m) : HF K (tOp (rIn K true) te (tVar j)) Γ (m.bind fun x => .ok (!decide (x ∈ xs))) := hf_inT_of (neg := true) (fun E => E.ownAt' hΓ) ht
theorem hf_in_ofN {xs : List Int} {m : Res Int} (hv : ∀ {I H : Hp} {σ ρ : List (Option V)} {Θ : List Cell}, Env K I H σ Γ ρ Θ → ∃ a vs, σ[j]? = some (some (.ref a)) ∧ H a = some (.lst vs) ∧ Paired (fun v x => Rep.rp K I v x) vs xs) (ht : HF K te Γ m) :
    HF K (tOp (rIn K true) te (tVar j)) Γ (m.bind fun x => .ok (!decide (x ∈ xs))) := .mk fun X Q E q => ht.run X _ E (wpb q fun x q _ => by
  obtain ⟨a, vs, hs, ha, p⟩ := hv E
  have e := ints_rp p
  subst e
  refine ⟨_, hs, a, _, rfl, .inl (SqL.of ha), rfl, flat_ints _, ?_⟩
  show Q (.bl (!inV (.int x) (xs.map V.int))) _
  rw [inV_ints]
  exact q trivial)
theorem hf_niL {xs : List Int} {m : Res Int} (hΓ : Γ[j]? = some (.im xs)) (ht : HF K te Γ m) : HF K (tOp (rIn K true) te (tVar j)) Γ (m.bind fun x => .ok (!decide (x ∈ xs))) := hf_in_ofN (fun E => E.listAt hΓ) ht
theorem hf_niO {xs : List Int} {m : Res Int} (hΓ : Γ[j]? = some (.own xs pn)) (ht : HF K te Γ m) : HF K (tOp (rIn K true) te (tVar j)) Γ (m.bind fun x => .ok (!decide (x ∈ xs))) := hf_in_ofN (fun E => E.ownAt' hΓ) ht
end
end M
namespace M
open PySem PySem.Spec PyProof.Rows L2
/-! ### repr of a whole number, of a text -/
theorem mkS_back (s : Str) : mkS s.cps.toList = s := by
  unfold mkS
  cases s
  simp
noncomputable def xReprI (i : Int) : Res Tx := clo (if i.natAbs.log2 < 1920 then .ok (Str.ofString (toString i)).cps.toList else .bad)
noncomputable def xReprT (w : Tx) : Res Tx := clo (if (reprText (mkS w)).length ≤ sizeLine then .ok (reprText (mkS w)).cps.toList else .bad)
def rReprI : List V → Hp → VK → Prop := fun xs H Q => ∃ i, xs = [V.int i] ∧ i.natAbs.log2 < 1920 ∧ Q (.str (toString i)) H
def rReprT : List V → Hp → VK → Prop := fun xs H Q => ∃ a : Str, xs = [V.str a] ∧ (reprText a).length ≤ sizeLine ∧ Q (.str (reprText a)) H
theorem call_reprT {X : Cx} : CallR X (.builtin "repr") rReprT := by
  intro pins s σ H xs us Q I r h
  obtain ⟨a, rfl, hz, q⟩ := h
  obtain ⟨u, rfl, t, rfl⟩ := vals1 r
  exact PySem.P.repr_of_str ⟨.str _, H, I.tok _, ⟨_, rfl⟩, q⟩ hz
theorem hc_reprI {x : Int} : HC1 rReprI x (xReprI x) := .mk fun X Q ox q => by
  unfold xReprI at q
  rw [clo_eq] at q
  by_cases h : x.natAbs.log2 < 1920
  · rw [if_pos h] at q
    refine ⟨x, rfl, h, ?_⟩
    have e := mkS_back (Str.ofString (toString x))
    have q2 := q (by
      show (Str.ofString (toString x)).cps.toList.length ≤ line
      rw [line_eq, Array.length_toList]
      exact int_text_fits h)
    have q3 : Q (V.str (mkS (Str.ofString (toString x)).cps.toList)) _ := q2
    rw [e] at q3
    exact q3
  · rw [if_neg h] at q
    exact q.elim
theorem hc_reprT {x : Tx} : HC1 rReprT x (xReprT x) := .mk fun X Q ox q => by
  unfold xReprT at q
  rw [clo_eq] at q
  by_cases h : (reprText (mkS x)).length ≤ sizeLine
  · rw [if_pos h] at q
    refine ⟨mkS x, rfl, h, ?_⟩
    have e := mkS_back (reprText (mkS x))
    have q2 := q (by
      show (reprText (mkS x)).cps.toList.length ≤ line
      rw [line_eq, Array.length_toList]
      exact h)
    have q3 : Q (V.str (mkS (reprText (mkS x)).cps.toList)) _ := q2
    rw [e] at q3
    exact q3
  · rw [if_neg h] at q
    exact q.elim
section
variable {K : PySem.W.Frag} {I H : Hp} {σ ρ : List (Option V)} {Γ Θ : List Cell} {ta tb : TE} {Q : VK} {ω : Type} {P : ω → Prop} {X : Exn → Prop}
/-- if-else whose ways change owned things -/
theorem st_itexS {S α : Type} {b : Bool} {mA mB : Res (S × α)} {k : S × α → Res ω} (G : S → List Cell) (oc : α → Cell) (E : Env K I H σ Γ ρ Θ) (h : wp ((if b = true then mA else mB).bind k) P X)
    (h1 : wp mA (fun y => ∀ I' H' v, Env K I' H' σ (G y.1) (some v :: ρ) (oc y.2 :: Θ) → Q v H') X → ta σ H Q) (h2 : wp mB (fun y => ∀ I' H' v, Env K I' H' σ (G y.1) (some v :: ρ) (oc y.2 :: Θ) → Q v H') X → tb σ H Q)
    (next : ∀ s a I' H' v, Env K I' H' σ (G s) (some v :: ρ) (oc a :: Θ) → wp (k (s, a)) P X → Q v H') : if b = true then ta σ H Q else tb σ H Q := by
  cases b with
  | true => exact h1 (wpb h fun a h I' H' v E => next a.1 a.2 I' H' v E h)
  | false => exact h2 (wpb h fun a h I' H' v E => next a.1 a.2 I' H' v E h)
end
/-- a method's derivation where the surroundings are not known early (suites, comprehensions) -/
theorem pe_bmK {X : Cx} {K : PySem.W.Frag} {e : Expr} {T : String} {r : V → List V → Hp → VK → Prop} {to : TE} {t : TA} (h : PE X e (tBM X.K T r to t)) (hK : X.K = K) : PE X e (tBM K T r to t) := hK ▸ h
end M
/-! sets of whole numbers made of lists and tuples, sorted at once; field-less exceptions -/
namespace M
open PySem PySem.Spec PyProof.Rows L2
/-- a set just made -/
abbrev nset (w : World) : Obj := { cls := .type "set", dict := none, data := .set #[] 0 (.fresh 0 0 (!w.params.followText "set-order")) }
section
variable {P : Program} {w : World} {A : Around} {E : Value → Shared → Prop} {s : Shared}
set_option maxHeartbeats 6000000 in
theorem set_listI {la : Addr} {us : Array Value} (ks : List Int) {Q : Value → Shared → Prop} (hA : A.handled = none) (hL : s.heap.IsList la us) (hI : IntsAre us.toList ks) (hB : ks.length + 1 < scanBound)
    (k : ∀ (h2 : Heap) (tk c : Nat), SetR w h2 s.heap.objs.size (fun j => decide (j ∈ ks)) c → c ≤ ks.length → (∀ b o, s.heap.get? b = some o → h2.get? b = some o) → Q (.ref s.heap.objs.size) { s with heap := h2, toks := tk }) :
    wpAny (model P w) A (call (.type "set") [.ref la]) Q E s := by
  have zk : us.size = ks.length := by
    have z := IntsAre.length hI
    rw [Array.length_toList] at z
    exact z
  obtain ⟨c0, tl0, mro0⟩ := F.called_set.mro
  have made0 := F.called_set.made
  have sub0 := F.called_set.sub
  refine wpAny_call (codeAny_of_tree ?_)
  show wpAny _ _ (callAny (.type "set") _) _ _ _
  refine wpAny_pure ⟨Code.quiet_builtin _ (by decide +kernel), codeAny_builtin F.entry_type_call ?_⟩
  rw [Around.under_plain (weight_type_call_type "set" [.ref la] []) rfl]
  have nt := F.called_set.notType
  have cc := F.called_set.canCreate
  have tc := F.typeCall_set_1 (.ref la)
  repeat (any_goals (first | assumption | wp_step))
  refine codeAny_mono (code_set_led1 (.ref la) (E := E) (Q₁ := fun obj t => obj = .ref s.heap.objs.size ∧ t = { s with heap := s.heap.push (nset w) }) ⟨rfl, rfl⟩) fun rr t0 hrr => ?_
  cases rr with
  | error e => exact hrr
  | ok fl =>
    cases fl with
    | ret obj =>
      obtain ⟨rfl, rfl⟩ := hrr
      have gS : (s.heap.push (nset w)).get? s.heap.objs.size = some (nset w) := Heap.get?_push_size _ rfl
      have tS : Shared.TypeIs { s with heap := s.heap.push (nset w) } (.ref s.heap.objs.size) "set" := ⟨_, gS, rfl⟩
      have li := F.called_set.init.lookup
      have bi := F.called_set.init.bind (.ref s.heap.objs.size)
      repeat (any_goals (first | assumption | wp_step))
      refine codeAny_mono (codeAny_call_builtin (R := wants (fun r t => r = .none ∧ ∃ h2 tk c, t = { s with heap := h2, toks := tk } ∧ SetR w h2 s.heap.objs.size (fun j => decide (j ∈ ks)) c ∧ c ≤ ks.length ∧
          (∀ b o, s.heap.get? b = some o → h2.get? b = some o)) E) F.called_set.init.plain F.entry_set_init (check_set_init_1 tS ?_)) fun r2 t2 hr2 => ?_
      · obtain ⟨ol, gl, cl, nl, dl⟩ := hL
        obtain ⟨oc, od, odt, osl⟩ := ol
        simp only at cl dl
        subst cl; subst dl
        have gl2 : (s.heap.push (nset w)).get? la = some { cls := .type "list", dict := od, data := .seq us nl, slots := osl } := Heap.get?_push_of_some _ gl
        have sls := F.sub_list_set
        have slf := F.sub_list_frozenset
        have nd : (Value.type "list" == Value.type "dict") = false := by decide
        have il : (s.heap.push (nset w)).IsList la us := ⟨_, gl2, rfl, nl, rfl⟩
        unfold Builtin.«set.__init__» noKeywords Builtin.Frozenset.updateFrom
        generalize hit : pyIter = IT
        wp_walk
        subst hit
        refine wpAny_pyIter_list il ?_
        refine wpAny_bind (wpAny_runValue ?_)
        have lS : la < s.heap.objs.size := Heap.lt_size gl
        have h3 : A.in1.in1.in1.handled = none := by simp [hA]
        have zI : (s.heap.push (nset w)).objs.size = s.heap.objs.size + 1 := Heap.size_push ..
        have nI : la ≠ (s.heap.push (nset w)).objs.size := by
          rw [zI]; exact Nat.ne_of_lt (Nat.lt_succ_of_lt lS)
        have nS : s.heap.objs.size ∉ [(s.heap.push (nset w)).objs.size, la] := by
          rw [zI]; simp only [List.mem_cons, List.not_mem_nil, or_false, not_or]
          exact ⟨Nat.ne_of_lt (Nat.lt_succ_self _), Nat.ne_of_gt lS⟩
        have vals : ∀ (i : Nat) (v : Value), us[i]? = some v → ∃ k t, ks[i]? = some k ∧ v = .int k t := fun i v hv => by
          have hi : i < ks.length := by rw [← zk]; exact (Array.getElem?_eq_some_iff.mp hv).1
          obtain ⟨t, e⟩ := PyProof.Rows.IntsAre.int_at hI i v (by rw [Array.getElem?_toList]; exact hv)
          refine ⟨ks[i], t, List.getElem?_eq_getElem hi, ?_⟩
          rw [e, List.getD_eq_getElem?_getD, List.getElem?_eq_getElem hi] <;> rfl
        refine set_update_ints ((Walks.list h3 _ la nI us).toS) s.heap.objs.size nS ks zk hB vals (us.size - 0) 0 _ (by omega) (Nat.zero_le _) ⟨⟨_, Heap.get?_push_size _ rfl, rfl, rfl⟩, (il.push _)⟩ ?_ ?_
        · exact ⟨0, Nat.le_refl 0, setR_new_at (Heap.get?_push_of_some _ gS)⟩
        · intro t3 c3 mv lc sr
          obtain ⟨hq, gq, dq, tq, oq⟩ := t3
          have e1 : gq = s.gens := mv.gens
          have e2 : dq = s.drawn := mv.drawn
          have e3 : oq = s.os := mv.os
          subst e1; subst e2; subst e3
          show wpAny _ _ _ _ _ _
          refine wpAny_pure ?_
          show wpAny _ _ (ret Value.none) _ _ _
          rw [zk] at lc
          refine wpAny_pure ⟨rfl, hq, tq, c3, rfl, sr, lc, fun b o e => ?_⟩
          have b0 : b < s.heap.objs.size := Heap.lt_size e
          refine mv.heap b o ?_ (Heap.get?_push_of_some _ (Heap.get?_push_of_some _ e))
          rw [zI]
          simp only [List.mem_cons, List.not_mem_nil, or_false, not_or]
          exact ⟨Nat.ne_of_lt b0, Nat.ne_of_lt (Nat.lt_succ_of_lt b0)⟩
      · cases r2 with
        | error e => exact hr2
        | ok fl2 =>
          cases fl2 with
          | ret r =>
            obtain ⟨rfl, h2, tk, c, rfl, sr, lc, kk⟩ := hr2
            repeat (any_goals (first | assumption | wp_step))
            exact k _ _ _ sr lc kk
          | _ => exact hr2.elim
    | _ => exact hrr.elim
end
end M
namespace M
open PySem PySem.Spec PyProof.Rows L2
/-! ### an own exception without fields -/
theorem pmk_own0N {X : Cx} {C : Addr} {bmB : List Value} {B newId initId : String} {x : Str} {p pos : Pos} (F : ExcBaseFacts B newId initId bmB) (e : PySem.W.excIn X.K C bmB newId = true) (gC : X.mg x = some (.ref C)) (kC : PySem.W.keepIn X.K (.ref C) = true)
    (r : Raises X (.ref C)) (hg : Gl X x) (hdb : (x == ("__debug__" : Str)) = false := by decide) : L2N.PMk X (.Call (.Name x p) [] [] pos) (fun _ H Q => Q (.ref C) none H) := by
  intro pins s σ H Q I h
  refine wpAny_Call_Name_kw (ld_glob I hg gC (PySem.W.callWith_K0 I.kIn kC ?_) hdb)
  obtain ⟨c1, c2, c3, c4, c5, c6, c7, c8, c9, c10, c11, c12, c13, c14, c15, c16, c17, oC, oN, nI, T⟩ := exc_obj I.kIn e
  show wpAny _ _ (call (.ref C) []) _ _ _
  exact wpAny_call_exc_subT F T oC oN nI (fun h2 a mk => L2N.mk_of I mk r h (I.hok.gone mk.new)) (Nat.zero_le _)
/-- what the top says of such a class -/
structure ExcN0 (K : PySem.W.Frag) (mg : Str → Option Value) (x : Str) (C : Addr) : Prop where
  gC : mg x = some (.ref C)
  q : PySem.W.excIn K C [.type "ValueError", .type "Exception", .type "BaseException", .type "object"] "ValueError.__new__" = true
  kC : PySem.W.keepIn K (.ref C) = true
  exC : PySem.W.subIn K (.ref C) (.type "BaseException") = some true
  tyC : PySem.W.typeIn K (.ref C) = some (.type "type")
  ec : ExcC K C
/-! ### a list or a tuple -/
structure SeqL (α : Type) where
  l : List α
instance repSeqL {α : Type} [Rep α] : Rep (SeqL α) where
  rp K I v x := ∃ a vs, v = .ref a ∧ (I a = some (.lst vs) ∨ SqT K I a vs) ∧ Paired (fun v x => Rep.rp K I v x) vs x.l
  mono := fun e ⟨a, vs, e1, h, p⟩ => ⟨a, vs, e1, h.imp (e _ _) (same_seqT e), Paired.monoR (fun _ _ q => Rep.mono e q) p⟩
def minF (x : Int) (xs : List Int) : Int := xs.foldl (fun a y => if y < a then y else a) x
def maxF (x : Int) (xs : List Int) : Int := xs.foldl (fun a y => if a < y then y else a) x
theorem minF_le : ∀ (xs : List Int) (x : Int), minF x xs ≤ x ∧ (∀ y ∈ xs, minF x xs ≤ y) ∧ (minF x xs = x ∨ minF x xs ∈ xs)
  | [], x => ⟨Int.le_refl _, fun y h => (by cases h), .inl rfl⟩
  | z :: xs, x => by
    have e : minF x (z :: xs) = minF (if z < x then z else x) xs := rfl
    obtain ⟨h1, h2, h3⟩ := minF_le xs (if z < x then z else x)
    rw [e]
    by_cases c : z < x
    · rw [if_pos c] at h1 h2 h3 ⊢
      exact ⟨by omega, fun y hy => (List.mem_cons.mp hy).elim (fun q => by rw [q]; exact h1) (h2 y), .inr (h3.elim (fun q => by rw [q]; exact List.mem_cons_self) (List.mem_cons_of_mem _))⟩
    · rw [if_neg c] at h1 h2 h3 ⊢
      exact ⟨h1, fun y hy => (List.mem_cons.mp hy).elim (fun q => by rw [q]; omega) (h2 y), h3.imp id (List.mem_cons_of_mem _)⟩
theorem maxF_le : ∀ (xs : List Int) (x : Int), x ≤ maxF x xs ∧ (∀ y ∈ xs, y ≤ maxF x xs) ∧ (maxF x xs = x ∨ maxF x xs ∈ xs)
  | [], x => ⟨Int.le_refl _, fun y h => (by cases h), .inl rfl⟩
  | z :: xs, x => by
    have e : maxF x (z :: xs) = maxF (if x < z then z else x) xs := rfl
    obtain ⟨h1, h2, h3⟩ := maxF_le xs (if x < z then z else x)
    rw [e]
    by_cases c : x < z
    · rw [if_pos c] at h1 h2 h3 ⊢
      exact ⟨by omega, fun y hy => (List.mem_cons.mp hy).elim (fun q => by rw [q]; exact h1) (h2 y), .inr (h3.elim (fun q => by rw [q]; exact List.mem_cons_self) (List.mem_cons_of_mem _))⟩
    · rw [if_neg c] at h1 h2 h3 ⊢
      exact ⟨h1, fun y hy => (List.mem_cons.mp hy).elim (fun q => by rw [q]; omega) (h2 y), h3.imp id (List.mem_cons_of_mem _)⟩
def minI : List Int → Res Int
  | [] => .bad
  | x :: xs => .ok (minF x xs)
def maxI : List Int → Res Int
  | [] => .bad
  | x :: xs => .ok (maxF x xs)
def minDf (d : Int) : List Int → Int
  | [] => d
  | x :: xs => minF x xs
/-! ### sorted(set(xs)) -/
def insU (x : Int) : List Int → List Int
  | [] => [x]
  | y :: ys => if x < y then x :: y :: ys else if x = y then y :: ys else y :: insU x ys
def sortU (ns : List Int) : List Int := ns.foldr insU []
theorem mem_insU {x z : Int} : ∀ ys : List Int, z ∈ insU x ys ↔ z = x ∨ z ∈ ys
  | [] => by simp [insU]
  | y :: ys => by
    unfold insU
    split
    · simp
    · split
      · rename_i h
        subst h
        simp
      · rw [List.mem_cons, mem_insU ys, List.mem_cons]
        constructor
        · rintro (h | h | h)
          · exact .inr (.inl h)
          · exact .inl h
          · exact .inr (.inr h)
        · rintro (h | h | h)
          · exact .inr (.inl h)
          · exact .inl h
          · exact .inr (.inr h)
theorem mem_sortU {z : Int} : ∀ ns : List Int, z ∈ sortU ns ↔ z ∈ ns
  | [] => Iff.rfl
  | n :: ns => by
    show z ∈ insU n (sortU ns) ↔ _
    rw [mem_insU, mem_sortU ns, List.mem_cons]
theorem insU_lt {x : Int} : ∀ {ys : List Int}, ys.Pairwise (· < ·) → (insU x ys).Pairwise (· < ·)
  | [], _ => by simp [insU]
  | y :: ys, h => by
    obtain ⟨h1, h2⟩ := List.pairwise_cons.mp h
    unfold insU
    split
    · rename_i c
      exact List.pairwise_cons.mpr ⟨fun z hz => (List.mem_cons.mp hz).elim (fun e => by rw [e]; exact c) fun e => Int.lt_trans c (h1 z e), h⟩
    · split
      · exact h
      · rename_i c d
        exact List.pairwise_cons.mpr ⟨fun z hz => ((mem_insU ys).mp hz).elim (fun e => by rw [e]; omega) (h1 z), insU_lt h2⟩
theorem sortU_lt : ∀ ns : List Int, (sortU ns).Pairwise (· < ·)
  | [] => .nil
  | n :: ns => insU_lt (sortU_lt ns)
theorem lt_uniq : ∀ {a b : List Int}, a.Pairwise (· < ·) → b.Pairwise (· < ·) → (∀ z, z ∈ a ↔ z ∈ b) → a = b
  | [], [], _, _, _ => rfl
  | [], y :: b, _, _, h => absurd ((h y).mpr List.mem_cons_self) (by simp)
  | x :: a, [], _, _, h => absurd ((h x).mp List.mem_cons_self) (by simp)
  | x :: a, y :: b, ha, hb, h => by
    obtain ⟨a1, a2⟩ := List.pairwise_cons.mp ha
    obtain ⟨b1, b2⟩ := List.pairwise_cons.mp hb
    have e : x = y := by
      rcases List.mem_cons.mp ((h x).mp List.mem_cons_self) with e | e
      · exact e
      · rcases List.mem_cons.mp ((h y).mpr List.mem_cons_self) with f | f
        · exact f.symm
        · have := b1 x e
          have := a1 y f
          omega
    subst e
    rw [lt_uniq a2 b2 fun z => ?_]
    constructor
    · intro hz
      rcases List.mem_cons.mp ((h z).mp (List.mem_cons_of_mem _ hz)) with e | e
      · have := a1 z hz
        omega
      · exact e
    · intro hz
      rcases List.mem_cons.mp ((h z).mpr (List.mem_cons_of_mem _ hz)) with e | e
      · have := b1 z hz
        omega
      · exact e
def SsG (K : PySem.W.Frag) (v : V) (H1 : Hp) (Q : VK) : Prop := ∃ (a : Addr) (ns : List Int), v = .ref a ∧ (SqL K H1 a (ns.map V.int) ∨ SqT K H1 a (ns.map V.int)) ∧ ns.length < 64 ∧ ∀ p, H1 p = none → Q (.ref p) (upd H1 p (.lst ((sortU ns).map V.int)))
def tSortSet (K : PySem.W.Frag) (te : TE) : TE := fun σ H Q => te σ H fun v H1 => SsG K v H1 Q
def tSeqI (K : PySem.W.Frag) (te : TE) : TI := fun σ H R => te σ H fun v H1 => ∃ a, v = .ref a ∧ (((∃ xs, SqL K H1 a xs) ∧ R (Itl K a) H1) ∨ ((∃ xs, SqT K H1 a xs) ∧ R (Itt K a) H1))
theorem small_scan {n : Nat} (h : n < 64) : n + 1 < scanBound := by unfold scanBound; omega
section
variable {X : Cx}
theorem sorted_end {pins : List (Addr × Obj)} {σ : L2.St} {H : Hp} {s : Shared} {Q : VK} {ns : List Int} {c : Nat} {b : Addr} (hc : X.calm = true) (I : Inv X pins σ H s) (S : SetR X.w s.heap b (fun j => decide (j ∈ ns)) c) (h64 : c < 64)
    (q : ∀ p, H p = none → Q (.ref p) (upd H p (.lst ((sortU ns).map V.int)))) : wpAny (model X.prog X.w) X.A (call (.builtin "sorted") [.ref b]) (EP X pins σ Q) X.xe s := by
  refine sorted_set S (I.ok.hd hc) h64 fun s2 p out c2 ms keep eg eo hp hget hints hlt hmem hlen => ?_
  have em : ms = sortU ns := lt_uniq hlt (sortU_lt ns) fun z => (hmem z).trans (by rw [mem_sortU]; exact decide_eq_true_iff)
  have fits : (ms.map V.int).length ≤ sizeLine := by rw [List.length_map, hlen, sizeLine_eq]; omega
  have free : H p = none := I.hok.fresh hp
  have J : Inv X pins σ (upd H p (.lst (ms.map V.int))) { s with heap := s2.heap, gens := s2.gens, drawn := s2.drawn, toks := s2.toks } :=
    I.call (ch := []) (Un.laid keep hp free) (I.hok.laid keep hp ⟨fits, out.toList, c2, vals_of_ints hints, hget⟩) (by rw [eg]; exact I.bare) (fun _ z => nomatch z)
  have es : s2 = { s with heap := s2.heap, gens := s2.gens, drawn := s2.drawn, toks := s2.toks } := by
    obtain ⟨_, _, _, _, _⟩ := s2
    obtain ⟨_, _, _, _, _⟩ := s
    cases eo
    rfl
  rw [es]
  subst em
  exact ⟨.ref p, _, J, rfl, q p free⟩
theorem pe_sortSet {e : Expr} {te : TE} {p p2 pos pos2 : Pos} (hg : Gl X "sorted") (hm : X.mg "sorted" = none) (hg2 : Gl X "set") (hm2 : X.mg "set" = none) (he : PE X e te) (hc : X.calm = true := by rfl)
    (na : starEach [e] X.env = (false, eval e X.env) :: starEach [] X.env := by rfl) : PE X (.Call (.Name "sorted" p) [.Call (.Name "set" p2) [e] [] pos2] [] pos) (tSortSet X.K te) := by
  refine ⟨fun pins s σ H Q I h => Call_ (ld_blt I hg hm PyProof.Rows.boot_sorted (PyProof.Rows.callWith_builtin1 (PyProof.Rows.args_cons (Call_ (ld_blt I hg2 hm2 PyProof.Rows.boot_set ?_)) rfl) rfl rfl))⟩
  refine PyProof.Rows.callWith_type1 (PyProof.Rows.args_cons (thn (he.run pins s σ H _ I h) fun v s1 ⟨x, H1, I1, r1, l, ns, ex, hq, h64, q⟩ => PyProof.Rows.args_nil ?_) na) na rfl
  subst ex
  cases r1
  rcases hq with hq | hq
  · obtain ⟨its, rv, pl, hz⟩ := I1.list hq
    refine set_listI ns (I1.ok.hd hc) pl.isList (by simpa using rv.ints) (small_scan h64) fun h2 tk c S lc keep => PyProof.Rows.args_nil ?_
    exact sorted_end hc (I1.kept fun b o eo => keep b o eo) S (Nat.lt_of_le_of_lt lc h64) q
  · obtain ⟨its, rv, pl, hz⟩ := I1.tuple hq
    refine call_set_tupI ns (I1.ok.hd hc) pl (by simpa using rv.ints) (small_scan h64) fun h2 tk c S lc keep => PyProof.Rows.args_nil ?_
    exact sorted_end hc (I1.kept fun b o eo => keep b o eo) S (Nat.lt_of_le_of_lt lc h64) q
/-- over a list or a tuple -/
theorem pi_seq {tg e : Expr} {te : TE} (he : PE X e te) : PI X tg e (tSeqI X.K te) := by
  refine ⟨fun pins s σ H R I h => thn (he.run pins s σ H _ I h) fun u s1 ⟨y, H1, I1, r1, l, ey, q⟩ => ?_⟩
  subst ey
  cases r1
  have fp : ∀ b ∈ [s1.heap.objs.size], _ := fun b hb => by
    have eb : b = s1.heap.objs.size := List.mem_singleton.mp hb
    exact eb ▸ I1.fpOk (H' := H1) (Nat.le_refl _) (I1.hok.fresh (Nat.le_refl _))
  rcases q with ⟨⟨xs, hq⟩, q⟩ | ⟨⟨xs, hq⟩, q⟩
  · obtain ⟨its, rv, pl, hz⟩ := I1.list hq
    exact wpAny_pyIter_list pl.isList ⟨_, [s1.heap.objs.size], _, _, H1, rfl, I1.kept (t' := s1.toks) fun b o eo => Heap.get?_push_of_some _ eo, turn_list l _, ⟨_, Heap.get?_push_size _ rfl, rfl, rfl⟩, fp, q⟩
  · obtain ⟨its, rv, pl, hz⟩ := I1.tuple hq
    exact wpAny_pyIter_tuple (show s1.heap.IsTuple l its.toArray from pl) ⟨_, [s1.heap.objs.size], _, _, H1, rfl, I1.kept (t' := s1.toks) fun b o eo => Heap.get?_push_of_some _ eo, turn_tuple l _, ⟨_, Heap.get?_push_size _ rfl, rfl, rfl⟩, fp, q⟩
/-! ### min(xs, default=d) -/
theorem dpInt {K : PySem.W.Frag} {H : Hp} : ∀ xs : List Int, DpAll K H (xs.map V.int) (xs.map PyData.int)
  | [] => .nil
  | x :: xs => .cons (.int _) (dpInt xs)
def rMinDf (K : PySem.W.Frag) : List V → List V → Hp → VK → Prop := fun vs zs H Q => ∃ (a : Addr) (ns : List Int) (d : Int), vs = [V.ref a] ∧ zs = [V.int d] ∧ SqL K H a (ns.map V.int) ∧ Q (.int (minDf d ns)) H
theorem cr_minDf (hc : X.calm = true) (hu : X.A.units + 64 < cLine) : CallRK X (.builtin "min") [Str.ofString "default"] (rMinDf X.K) := by
  intro pins s σ H vs zs us ws Q I r rz h
  obtain ⟨a, ns, d, rfl, rfl, hs, q⟩ := h
  obtain ⟨its, rv, hl, _⟩ := I.list hs
  obtain rfl := Vals.ref1 r
  obtain ⟨w1, rfl, td, e1⟩ := vals1 rz
  obtain ⟨as, ra⟩ := Dp.readsAll I _ _ _ (dpInt ns) rv
  subst e1
  refine PySem.W.min_list_datum_default (α := Int) (xs := ns) (I.ok.hd hc) hl.isList ⟨as, (show ReadsAll s.heap its.toArray.toList (ns.map PyData.int) as from ra)⟩ (by show _ + 1 + 0 < _; omega) (fun e h' tk hk => ?_) fun y ys i v h' tk e hv ho hk => ?_
  · subst e
    exact ⟨.int _, H, I.kept hk, ⟨_, rfl⟩, q⟩
  · subst e
    obtain ⟨bs, rd⟩ := ho
    have q : Q (.int (PySem.W.minOf y ys)) H := by
      have e2 : PySem.W.minOf y ys = minDf d (y :: ys) := by
        show ys.foldl _ y = ys.foldl _ y
        congr 1
        funext a z
        show (if decide (z < a) = true then z else a) = _
        by_cases c : z < a <;> simp [c]
      rw [e2]
      exact q
    generalize PySem.W.minOf y ys = m at rd q
    cases rd
    exact ⟨.int _, H, I.kept hk, ⟨_, rfl⟩, q⟩
end
end M
namespace M
open PySem PySem.Spec PyProof.Rows L2
def lSortU (ns : List Int) : Res (List Int) := if ns.length < 64 then .ok (sortU ns) else .bad
section
variable {K : PySem.W.Frag} {mg : Str → Option Value} {I H I' H' : Hp} {σ σ' ρ : List (Option V)} {Γ Γ' Θ : List Cell} {i j n : Nat} {v v1 v2 v3 : V} {c c1 c2 : Cell} {o : Option V} {te tl ti to td : TE} {ta : TA} {tt : TT} {t u : TS} {dn db dc : L2.St → Hp → Prop} {dr : VK} {Q : VK} {W : WX}
variable {ω : Type} {P : ω → Prop} {X : Exn → Prop} {α β γ δ : Type} {pn : Option V}
/-! ### a list or a tuple -/
theorem Env.listSeq [Rep α] {xs : List α} (E : Env K I H σ Γ (some v :: ρ) (.im xs :: Θ)) : Env K I H σ Γ (some v :: ρ) (.im (SeqL.mk xs) :: Θ) := E.pop.push (a := SeqL.mk xs) (by
  obtain ⟨a, vs, rfl, hq, p⟩ := E.topR
  exact ⟨a, vs, rfl, .inl hq, p⟩)
theorem Env.tupSeq [Rep α] {xs : TupL α} (E : Env K I H σ Γ (some v :: ρ) (.im xs :: Θ)) : Env K I H σ Γ (some v :: ρ) (.im (SeqL.mk xs.l) :: Θ) := E.pop.push (a := SeqL.mk xs.l) (by
  obtain ⟨a, vs, rfl, hq, p⟩ := E.topR
  exact ⟨a, vs, rfl, .inr hq, p⟩)
theorem seq_at [Rep α] {xs : SeqL α} (r : Rep.rp K I v xs) (s : Same I H) : ∃ a vs, v = .ref a ∧ (SqL K H a vs ∨ SqT K H a vs) ∧ Paired (fun v x => Rep.rp K I v x) vs xs.l := by
  obtain ⟨a, vs, e, h, p⟩ := r
  exact ⟨a, vs, e, h.imp (fun h => SqL.of (s _ _ h)) (same_seqT s), p⟩
theorem hf_lenS [Rep α] {xs : SeqL α} (hΓ : Γ[j]? = some (.im xs)) : HF K (tCB (rLen2 K) (tCons (tVar j) tNil)) Γ (.ok ((xs.l.length : Nat) : Int)) := .mk fun X Q E q => by
  obtain ⟨v, hs, r⟩ := E.get hΓ
  obtain ⟨a, vs, e, ha, p⟩ := seq_at r E.same
  subst e
  refine ⟨_, hs, a, vs, rfl, ha, ?_⟩
  have hl : vs.length = xs.l.length := Paired.length p
  rw [hl]
  exact q trivial
theorem st_lenS [Rep α] {xs : SeqL α} (E : Env K I H σ Γ (some v :: ρ) (.im xs :: Θ)) (next : ∀ v, Env K I H σ Γ (some v :: ρ) (.im ((xs.l.length : Nat) : Int) :: Θ) → Q v H) : CbG (rLen2 K) [v] H Q := by
  obtain ⟨a, vs, e, ha, p⟩ := seq_at E.topR E.same
  subst e
  have hl : vs.length = xs.l.length := Paired.length p
  exact ⟨a, vs, rfl, ha, next _ (E.pop.pushS (a := ((vs.length : Nat) : Int)) trivial |> fun z => by rw [← hl]; exact z)⟩
def SqIG (K : PySem.W.Frag) (v : V) (H1 : Hp) (R : It → Hp → Prop) : Prop := ∃ a, v = .ref a ∧ (((∃ xs, SqL K H1 a xs) ∧ R (Itl K a) H1) ∨ ((∃ xs, SqT K H1 a xs) ∧ R (Itt K a) H1))
theorem uSqI {R : It → Hp → Prop} (h : te σ H fun v H1 => SqIG K v H1 R) : tSeqI K te σ H R := h
theorem it_seq [Rep α] {R : It → Hp → Prop} {xs : SeqL α} (E : Env K I H σ Γ (some v :: ρ) (.im xs :: Θ)) (next : ∀ J c, Env K I H σ Γ (some v :: ρ) (c :: Θ) → Feeds K J xs.l [some v] [c] → R J H) : SqIG K v H R := by
  obtain ⟨a, vs, e, h, p⟩ := E.topR
  subst e
  rcases h with h | h
  · have E2 : Env K I H σ Γ (some (.ref a) :: ρ) (.im xs.l :: Θ) := E.pop.push (a := xs.l) ⟨a, vs, rfl, h, p⟩
    obtain ⟨b, e, hs, r⟩ := it_list (R := fun a => R (Itl K a) H) E2 fun a F => next _ _ E2 F
    exact ⟨b, e, .inl ⟨hs, r⟩⟩
  · have E2 : Env K I H σ Γ (some (.ref a) :: ρ) (.im (TupL.mk xs.l) :: Θ) := E.pop.push (a := TupL.mk xs.l) ⟨a, vs, rfl, h, p⟩
    obtain ⟨b, e, hs, r⟩ := it_tup (R := fun a => R (Itt K a) H) E2 fun a F => next _ _ E2 F
    exact ⟨b, e, .inr ⟨hs, r⟩⟩
theorem st_listSI [Rep α] {xs : SeqL α} (E : Env K I H σ Γ (some v :: ρ) (.im xs :: Θ)) (next : ∀ I' H' v, Env K I' H' σ Γ (some v :: ρ) (.im xs.l :: Θ) → Q v H') : CbG (rListOf K) [v] H Q := by
  obtain ⟨a, vs, rfl, ha, p⟩ := seq_at E.topR E.same
  exact ⟨a, vs, rfl, ha, st_newI (Env.pop E) p next⟩
theorem st_listSO [Rep α] {xs : SeqL α} (E : Env K I H σ Γ (some v :: ρ) (.im xs :: Θ)) (next : ∀ H' v, Env K I H' σ Γ (some v :: ρ) (.own xs.l :: Θ) → Q v H') : CbG (rListOf K) [v] H Q := by
  obtain ⟨a, vs, rfl, ha, p⟩ := seq_at E.topR E.same
  exact ⟨a, vs, rfl, ha, st_newO (Env.pop E) p next⟩
/-! ### sorted(set(xs)) -/
theorem uSortSet (h : te σ H fun v H1 => SsG K v H1 Q) : tSortSet K te σ H Q := h
theorem st_sortUI {xs : SeqL Int} {k : List Int → Res ω} (E : Env K I H σ Γ (some v :: ρ) (.im xs :: Θ)) (h : wp ((lSortU xs.l).bind k) P X) (next : ∀ xs' I' H' v, Env K I' H' σ Γ (some v :: ρ) (.im xs' :: Θ) → wp (k xs') P X → Q v H') : SsG K v H Q := by
  obtain ⟨a, vs, rfl, ha, p⟩ := seq_at E.topR E.same
  unfold lSortU at h
  split at h
  · rename_i h64
    refine ⟨a, xs.l, rfl, by rw [← ints_rp p]; exact ha, h64, fun q np => ?_⟩
    exact st_newI (Env.pop E) (rp_ints (sortU xs.l)) (fun I' H' v E => next _ I' H' v E h) q np
  · exact h.elim
theorem st_sortUO {xs : SeqL Int} {k : List Int → Res ω} (E : Env K I H σ Γ (some v :: ρ) (.im xs :: Θ)) (h : wp ((lSortU xs.l).bind k) P X) (next : ∀ xs' H' v, Env K I H' σ Γ (some v :: ρ) (.own xs' :: Θ) → wp (k xs') P X → Q v H') : SsG K v H Q := by
  obtain ⟨a, vs, rfl, ha, p⟩ := seq_at E.topR E.same
  unfold lSortU at h
  split at h
  · rename_i h64
    refine ⟨a, xs.l, rfl, by rw [← ints_rp p]; exact ha, h64, fun q np => ?_⟩
    exact st_newO (Env.pop E) (rp_ints (sortU xs.l)) (fun H' v E => next _ H' v E h) q np
  · exact h.elim
/-! ### gcd, min, max -/
theorem hc_gcd {x y : Int} : HC2 rGcd x y (.ok ((Nat.gcd x.natAbs y.natAbs : Nat) : Int)) := .mk fun X Q _ _ q => ⟨x, y, rfl, q trivial⟩
theorem min_uniq {x m : Int} {xs : List Int} (h1 : m ∈ x :: xs) (h2 : ∀ y ∈ x :: xs, m ≤ y) : m = minF x xs := by
  obtain ⟨a, b, c⟩ := minF_le xs x
  have e1 : minF x xs ≤ m := (List.mem_cons.mp h1).elim (fun e => by rw [e]; exact a) (b m)
  have e2 : m ≤ minF x xs := h2 _ (c.elim (fun e => by rw [e]; exact List.mem_cons_self) (List.mem_cons_of_mem _))
  omega
theorem max_uniq {x m : Int} {xs : List Int} (h1 : m ∈ x :: xs) (h2 : ∀ y ∈ x :: xs, y ≤ m) : m = maxF x xs := by
  obtain ⟨a, b, c⟩ := maxF_le xs x
  have e1 : m ≤ maxF x xs := (List.mem_cons.mp h1).elim (fun e => by rw [e]; exact a) (b m)
  have e2 : maxF x xs ≤ m := h2 _ (c.elim (fun e => by rw [e]; exact List.mem_cons_self) (List.mem_cons_of_mem _))
  omega
theorem hf_min_of {xs : List Int} (hv : ∀ {I H : Hp} {σ ρ : List (Option V)} {Θ : List Cell}, Env K I H σ Γ ρ Θ → ∃ a vs, σ[j]? = some (some (.ref a)) ∧ H a = some (.lst vs) ∧ Paired (fun v x => Rep.rp K I v x) vs xs) : HF K (tCB (rMin K) (tCons (tVar j) tNil)) Γ (minI xs) := .mk fun X Q E q => by
  obtain ⟨a, vs, hs, ha, p⟩ := hv E
  cases xs with
  | nil => exact q.elim
  | cons x xs =>
    refine ⟨_, hs, a, x :: xs, rfl, by rw [← ints_of p]; exact SqL.of ha, Nat.succ_pos _, fun m h1 h2 => ?_⟩
    rw [min_uniq h1 h2]
    exact q trivial
theorem hf_minL {xs : List Int} (hΓ : Γ[j]? = some (.im xs)) : HF K (tCB (rMin K) (tCons (tVar j) tNil)) Γ (minI xs) := hf_min_of fun E => E.listAt hΓ
theorem hf_minO {xs : List Int} (hΓ : Γ[j]? = some (.own xs pn)) : HF K (tCB (rMin K) (tCons (tVar j) tNil)) Γ (minI xs) := hf_min_of fun E => E.ownAt' hΓ
theorem hf_max_of {xs : List Int} (hv : ∀ {I H : Hp} {σ ρ : List (Option V)} {Θ : List Cell}, Env K I H σ Γ ρ Θ → ∃ a vs, σ[j]? = some (some (.ref a)) ∧ H a = some (.lst vs) ∧ Paired (fun v x => Rep.rp K I v x) vs xs) : HF K (tCB (rMax K) (tCons (tVar j) tNil)) Γ (maxI xs) := .mk fun X Q E q => by
  obtain ⟨a, vs, hs, ha, p⟩ := hv E
  cases xs with
  | nil => exact q.elim
  | cons x xs =>
    refine ⟨_, hs, a, x :: xs, rfl, by rw [← ints_of p]; exact SqL.of ha, Nat.succ_pos _, fun m h1 h2 => ?_⟩
    rw [max_uniq h1 h2]
    exact q trivial
theorem hf_maxL {xs : List Int} (hΓ : Γ[j]? = some (.im xs)) : HF K (tCB (rMax K) (tCons (tVar j) tNil)) Γ (maxI xs) := hf_max_of fun E => E.listAt hΓ
theorem hf_maxO {xs : List Int} (hΓ : Γ[j]? = some (.own xs pn)) : HF K (tCB (rMax K) (tCons (tVar j) tNil)) Γ (maxI xs) := hf_max_of fun E => E.ownAt' hΓ
theorem st_minI {xs : List Int} {k : Int → Res ω} (E : Env K I H σ Γ (some v :: ρ) (.im xs :: Θ)) (h : wp ((minI xs).bind k) P X) (next : ∀ m v, Env K I H σ Γ (some v :: ρ) (.im m :: Θ) → wp (k m) P X → Q v H) : CbG (rMin K) [v] H Q := by
  obtain ⟨a, vs, rfl, ha, p⟩ := E.topR
  cases xs with
  | nil => exact h.elim
  | cons x xs =>
    refine ⟨a, x :: xs, rfl, by rw [← ints_of p]; exact SqL.of (E.same _ _ ha), Nat.succ_pos _, fun m h1 h2 => ?_⟩
    rw [min_uniq h1 h2]
    exact next _ _ (E.pop.pushS (a := minF x xs) trivial) h
theorem st_maxI {xs : List Int} {k : Int → Res ω} (E : Env K I H σ Γ (some v :: ρ) (.im xs :: Θ)) (h : wp ((maxI xs).bind k) P X) (next : ∀ m v, Env K I H σ Γ (some v :: ρ) (.im m :: Θ) → wp (k m) P X → Q v H) : CbG (rMax K) [v] H Q := by
  obtain ⟨a, vs, rfl, ha, p⟩ := E.topR
  cases xs with
  | nil => exact h.elim
  | cons x xs =>
    refine ⟨a, x :: xs, rfl, by rw [← ints_of p]; exact SqL.of (E.same _ _ ha), Nat.succ_pos _, fun m h1 h2 => ?_⟩
    rw [max_uniq h1 h2]
    exact next _ _ (E.pop.pushS (a := maxF x xs) trivial) h
theorem hf_minDfL {xs : List Int} {d : Int} (hΓ : Γ[j]? = some (.im xs)) (hd : HF K td Γ (.ok d)) : HF K (tCKw (rMinDf K) (tCons (tVar j) tNil) (tCons td tNil)) Γ (.ok (minDf d xs)) := .mk fun X Q E q => by
  obtain ⟨a, vs, hs, ha, p⟩ := E.listAt hΓ
  exact ⟨_, hs, hd.run X _ E fun _ => ⟨a, xs, d, rfl, rfl, by rw [← ints_of p]; exact SqL.of ha, q trivial⟩⟩
/-! ### all(..), is True, a pair's parts -/
theorem bls_of : ∀ {vs : List V} {xs : List Bool}, Paired (fun v x => Rep.rp K I v x) vs xs → vs = xs.map V.bl
  | _, _, .nil => rfl
  | _, _, .cons r t => by
    have r' : _ = V.bl _ ∧ True := r
    rw [r'.1, bls_of t]
    rfl
theorem st_all {xs : List Bool} (E : Env K I H σ Γ (some v :: ρ) (.im xs :: Θ)) (next : ∀ v, Env K I H σ Γ (some v :: ρ) (.im (xs.all id) :: Θ) → Q v H) : CbG (rAll K) [v] H Q := by
  obtain ⟨a, vs, rfl, ha, p⟩ := E.topR
  exact ⟨a, xs, rfl, by rw [← bls_of p]; exact SqL.of (E.same _ _ ha), next _ (E.pop.pushS (a := xs.all id) trivial)⟩
theorem hr_isB {x y : Bool} : HR rIsB x y (.ok (decide (x = y))) := .mk fun X Q _ _ q => ⟨x, y, rfl, rfl, q trivial⟩
theorem hr_notB {x y : Bool} : HR rNotB x y (.ok (!decide (x = y))) := .mk fun X Q _ _ q => ⟨x, y, rfl, rfl, q trivial⟩
theorem hf_ixP0 [Sca α] [Rep β] {x : α × β} (hΓ : Γ[j]? = some (.im x)) : HF K (tOp (rIxT K) (tVar j) (tC (.int 0))) Γ (.ok x.1) := .mk fun X Q E q => by
  obtain ⟨v, hs, a, v1, v2, e, ha, p1, p2⟩ := E.get hΓ
  subst e
  refine ⟨_, hs, a, [v1, v2], 0, v1, rfl, rfl, same_seqT E.same ha, rfl, ?_⟩
  rw [p1.1]
  exact q p1.2
theorem hf_ixP1 [Rep α] [Sca β] {x : α × β} (hΓ : Γ[j]? = some (.im x)) : HF K (tOp (rIxT K) (tVar j) (tC (.int 1))) Γ (.ok x.2) := .mk fun X Q E q => by
  obtain ⟨v, hs, a, v1, v2, e, ha, p1, p2⟩ := E.get hΓ
  subst e
  refine ⟨_, hs, a, [v1, v2], 1, v2, rfl, rfl, same_seqT E.same ha, rfl, ?_⟩
  rw [p2.1]
  exact q p2.2
theorem st_ixP0 [Rep α] [Rep β] {x : α × β} (E : Env K I H σ Γ ρ Θ) (hΓ : Γ[j]? = some (.im x)) (next : ∀ v, Env K I H σ Γ (some v :: ρ) (.im x.1 :: Θ) → Q v H) : tOp (rIxT K) (tVar j) (tC (.int 0)) σ H Q := by
  obtain ⟨v, hs, a, v1, v2, e, ha, p1, p2⟩ := E.get hΓ
  subst e
  exact ⟨_, hs, a, [v1, v2], 0, v1, rfl, rfl, same_seqT E.same ha, rfl, next v1 (E.push p1)⟩
theorem st_ixP1 [Rep α] [Rep β] {x : α × β} (E : Env K I H σ Γ ρ Θ) (hΓ : Γ[j]? = some (.im x)) (next : ∀ v, Env K I H σ Γ (some v :: ρ) (.im x.2 :: Θ) → Q v H) : tOp (rIxT K) (tVar j) (tC (.int 1)) σ H Q := by
  obtain ⟨v, hs, a, v1, v2, e, ha, p1, p2⟩ := E.get hΓ
  subst e
  exact ⟨_, hs, a, [v1, v2], 1, v2, rfl, rfl, same_seqT E.same ha, rfl, next v2 (E.push p2)⟩
/-! ### reversed(xs) -/
def RvIG (K : PySem.W.Frag) (vs : List V) (H1 : Hp) (R : It → Hp → Prop) : Prop := ∃ (a : Addr) (xs : List V), vs = [.ref a] ∧ SqL K H1 a xs ∧ R (Itv K a xs.length) H1
theorem uRevI {R : It → Hp → Prop} (h : ta σ H fun vs H1 => RvIG K vs H1 R) : iRev K ta σ H R := h
theorem it_rev [Rep α] {R : It → Hp → Prop} {xs : List α} (E : Env K I H σ Γ (some v :: ρ) (.im xs :: Θ)) (next : ∀ J, Feeds K J xs.reverse [some v] [.im xs] → R J H) : RvIG K [v] H R := by
  obtain ⟨a, vs, e, hq, pr⟩ := E.topR
  subst e
  have ln : vs.length = xs.length := Paired.length pr
  refine ⟨a, vs, rfl, SqL.of (E.same _ _ hq), next _ ⟨rfl, fun {_ _} {_ _} {_ _} i E' hi => ?_, fun {I H} {_ _} {_ _} i x H' b E' hx hy => ?_, fun {_ _} {_ _} {_ _} i E' hi => ?_⟩⟩
  · obtain ⟨b, ws, e, hq', pr'⟩ := E'.topR
    cases e
    have hl : ws.length = xs.length := Paired.length pr'
    rw [List.length_reverse] at hi
    exact ⟨by omega, ws, ws[vs.length - 1 - i]'(by omega), SqL.of (E'.same _ _ hq'), List.getElem?_eq_getElem (by omega)⟩
  · obtain ⟨b', ws, e, hq', pr'⟩ := E'.topR
    cases e
    obtain ⟨rfl, hy⟩ := hy
    have hl : ws.length = xs.length := Paired.length pr'
    have hi : i < xs.length := by
      have := (List.getElem?_eq_some_iff.mp hx).1
      rw [List.length_reverse] at this
      exact this
    rw [List.getElem?_reverse hi] at hx
    exact ⟨I, Grow.refl E'.same, paired_at pr' (hy _ (SqL.of (E'.same _ _ hq'))) (by rw [ln]; exact hx)⟩
  · rw [List.length_reverse] at hi
    show vs.length ≤ i
    omega
end
end M
namespace M
open PySem PySem.Spec PyProof.Rows L2
/-! ### lists of a few things of unlike types -/
structure ML2 (α β : Type) where
  a : α
  b : β
instance repML2 {α β : Type} [Rep α] [Rep β] : Rep (ML2 α β) where
  rp K I v x := ∃ p v1 v2, v = .ref p ∧ I p = some (.lst [v1, v2]) ∧ Rep.rp K I v1 x.a ∧ Rep.rp K I v2 x.b
  mono := fun e ⟨p, v1, v2, e1, h, r1, r2⟩ => ⟨p, v1, v2, e1, e _ _ h, Rep.mono e r1, Rep.mono e r2⟩
structure ML3 (α β γ : Type) where
  a : α
  b : β
  c : γ
instance repML3 {α β γ : Type} [Rep α] [Rep β] [Rep γ] : Rep (ML3 α β γ) where
  rp K I v x := ∃ p v1 v2 v3, v = .ref p ∧ I p = some (.lst [v1, v2, v3]) ∧ Rep.rp K I v1 x.a ∧ Rep.rp K I v2 x.b ∧ Rep.rp K I v3 x.c
  mono := fun e ⟨p, v1, v2, v3, e1, h, r1, r2, r3⟩ => ⟨p, v1, v2, v3, e1, e _ _ h, Rep.mono e r1, Rep.mono e r2, Rep.mono e r3⟩
structure ML4 (α β γ δ : Type) where
  a : α
  b : β
  c : γ
  d : δ
instance repML4 {α β γ δ : Type} [Rep α] [Rep β] [Rep γ] [Rep δ] : Rep (ML4 α β γ δ) where
  rp K I v x := ∃ p v1 v2 v3 v4, v = .ref p ∧ I p = some (.lst [v1, v2, v3, v4]) ∧ Rep.rp K I v1 x.a ∧ Rep.rp K I v2 x.b ∧ Rep.rp K I v3 x.c ∧ Rep.rp K I v4 x.d
  mono := fun e ⟨p, v1, v2, v3, v4, e1, h, r1, r2, r3, r4⟩ => ⟨p, v1, v2, v3, v4, e1, e _ _ h, Rep.mono e r1, Rep.mono e r2, Rep.mono e r3, Rep.mono e r4⟩
section
variable {K : PySem.W.Frag} {mg : Str → Option Value} {I H I' H' : Hp} {σ σ' ρ : List (Option V)} {Γ Γ' Θ : List Cell} {i j n : Nat} {v v1 v2 v3 v4 : V} {Q : VK} {ω : Type} {P : ω → Prop} {X : Exn → Prop} {α β γ δ : Type}
theorem st_mk2 [Rep α] [Rep β] {x1 : α} {x2 : β} (E : Env K I H σ Γ (some v2 :: some v1 :: ρ) (.im x2 :: .im x1 :: Θ)) (next : ∀ I' H' v, Env K I' H' σ Γ (some v :: ρ) (.im (ML2.mk x1 x2) :: Θ) → Q v H') : LsG [v1, v2] H Q := by
  refine ⟨line_of (by decide : (2 : Nat) ≤ line), fun p hp => ?_⟩
  have r2 := E.topR
  have r1 := E.pop.topR
  have E2 := E.pop.pop
  have m : ∀ {γ : Type} [Rep γ] {v : V} {z : γ}, Rep.rp K I v z → Rep.rp K (upd I p (.lst [v1, v2])) v z := fun q => Rep.mono (fun a o e => by rw [upd_ne (ne_of_none e (E2.2.2.none_of hp))]; exact e) q
  exact next _ _ _ ((E2.grow (Grow.newI (u := .lst [v1, v2]) E2.same hp)).push ⟨p, v1, v2, rfl, upd_same, m r1, m r2⟩)
theorem st_ixM2_0 [Rep α] [Rep β] {x : ML2 α β} (E : Env K I H σ Γ ρ Θ) (hΓ : Γ[j]? = some (.im x)) (next : ∀ v, Env K I H σ Γ (some v :: ρ) (.im x.a :: Θ) → Q v H) : tOp (rIxL K) (tVar j) (tC (.int 0)) σ H Q := by
  obtain ⟨v, hs, a, v1, v2, e, ha, p1, p2⟩ := E.get hΓ
  subst e
  exact ⟨_, hs, a, [v1, v2], 0, v1, rfl, rfl, SqL.of (E.same _ _ ha), rfl, next v1 (E.push p1)⟩
theorem hf_ixM2_0 [Sca α] [Rep β] {x : ML2 α β} (hΓ : Γ[j]? = some (.im x)) : HF K (tOp (rIxL K) (tVar j) (tC (.int 0))) Γ (.ok x.a) := .mk fun X Q E q => by
  obtain ⟨v, hs, a, v1, v2, e, ha, p1, p2⟩ := E.get hΓ
  subst e
  refine ⟨_, hs, a, [v1, v2], 0, v1, rfl, rfl, SqL.of (E.same _ _ ha), rfl, ?_⟩
  rw [p1.1]
  exact q p1.2
theorem st_ixM2_1 [Rep α] [Rep β] {x : ML2 α β} (E : Env K I H σ Γ ρ Θ) (hΓ : Γ[j]? = some (.im x)) (next : ∀ v, Env K I H σ Γ (some v :: ρ) (.im x.b :: Θ) → Q v H) : tOp (rIxL K) (tVar j) (tC (.int 1)) σ H Q := by
  obtain ⟨v, hs, a, v1, v2, e, ha, p1, p2⟩ := E.get hΓ
  subst e
  exact ⟨_, hs, a, [v1, v2], 1, v2, rfl, rfl, SqL.of (E.same _ _ ha), rfl, next v2 (E.push p2)⟩
theorem hf_ixM2_1 [Rep α] [Sca β] {x : ML2 α β} (hΓ : Γ[j]? = some (.im x)) : HF K (tOp (rIxL K) (tVar j) (tC (.int 1))) Γ (.ok x.b) := .mk fun X Q E q => by
  obtain ⟨v, hs, a, v1, v2, e, ha, p1, p2⟩ := E.get hΓ
  subst e
  refine ⟨_, hs, a, [v1, v2], 1, v2, rfl, rfl, SqL.of (E.same _ _ ha), rfl, ?_⟩
  rw [p2.1]
  exact q p2.2
theorem st_mk3 [Rep α] [Rep β] [Rep γ] {x1 : α} {x2 : β} {x3 : γ} (E : Env K I H σ Γ (some v3 :: some v2 :: some v1 :: ρ) (.im x3 :: .im x2 :: .im x1 :: Θ)) (next : ∀ I' H' v, Env K I' H' σ Γ (some v :: ρ) (.im (ML3.mk x1 x2 x3) :: Θ) → Q v H') : LsG [v1, v2, v3] H Q := by
  refine ⟨line_of (by decide : (3 : Nat) ≤ line), fun p hp => ?_⟩
  have r3 := E.topR
  have r2 := E.pop.topR
  have r1 := E.pop.pop.topR
  have E2 := E.pop.pop.pop
  have m : ∀ {γ : Type} [Rep γ] {v : V} {z : γ}, Rep.rp K I v z → Rep.rp K (upd I p (.lst [v1, v2, v3])) v z := fun q => Rep.mono (fun a o e => by rw [upd_ne (ne_of_none e (E2.2.2.none_of hp))]; exact e) q
  exact next _ _ _ ((E2.grow (Grow.newI (u := .lst [v1, v2, v3]) E2.same hp)).push ⟨p, v1, v2, v3, rfl, upd_same, m r1, m r2, m r3⟩)
theorem st_ixM3_0 [Rep α] [Rep β] [Rep γ] {x : ML3 α β γ} (E : Env K I H σ Γ ρ Θ) (hΓ : Γ[j]? = some (.im x)) (next : ∀ v, Env K I H σ Γ (some v :: ρ) (.im x.a :: Θ) → Q v H) : tOp (rIxL K) (tVar j) (tC (.int 0)) σ H Q := by
  obtain ⟨v, hs, a, v1, v2, v3, e, ha, p1, p2, p3⟩ := E.get hΓ
  subst e
  exact ⟨_, hs, a, [v1, v2, v3], 0, v1, rfl, rfl, SqL.of (E.same _ _ ha), rfl, next v1 (E.push p1)⟩
theorem hf_ixM3_0 [Sca α] [Rep β] [Rep γ] {x : ML3 α β γ} (hΓ : Γ[j]? = some (.im x)) : HF K (tOp (rIxL K) (tVar j) (tC (.int 0))) Γ (.ok x.a) := .mk fun X Q E q => by
  obtain ⟨v, hs, a, v1, v2, v3, e, ha, p1, p2, p3⟩ := E.get hΓ
  subst e
  refine ⟨_, hs, a, [v1, v2, v3], 0, v1, rfl, rfl, SqL.of (E.same _ _ ha), rfl, ?_⟩
  rw [p1.1]
  exact q p1.2
theorem st_ixM3_1 [Rep α] [Rep β] [Rep γ] {x : ML3 α β γ} (E : Env K I H σ Γ ρ Θ) (hΓ : Γ[j]? = some (.im x)) (next : ∀ v, Env K I H σ Γ (some v :: ρ) (.im x.b :: Θ) → Q v H) : tOp (rIxL K) (tVar j) (tC (.int 1)) σ H Q := by
  obtain ⟨v, hs, a, v1, v2, v3, e, ha, p1, p2, p3⟩ := E.get hΓ
  subst e
  exact ⟨_, hs, a, [v1, v2, v3], 1, v2, rfl, rfl, SqL.of (E.same _ _ ha), rfl, next v2 (E.push p2)⟩
theorem hf_ixM3_1 [Rep α] [Sca β] [Rep γ] {x : ML3 α β γ} (hΓ : Γ[j]? = some (.im x)) : HF K (tOp (rIxL K) (tVar j) (tC (.int 1))) Γ (.ok x.b) := .mk fun X Q E q => by
  obtain ⟨v, hs, a, v1, v2, v3, e, ha, p1, p2, p3⟩ := E.get hΓ
  subst e
  refine ⟨_, hs, a, [v1, v2, v3], 1, v2, rfl, rfl, SqL.of (E.same _ _ ha), rfl, ?_⟩
  rw [p2.1]
  exact q p2.2
theorem st_ixM3_2 [Rep α] [Rep β] [Rep γ] {x : ML3 α β γ} (E : Env K I H σ Γ ρ Θ) (hΓ : Γ[j]? = some (.im x)) (next : ∀ v, Env K I H σ Γ (some v :: ρ) (.im x.c :: Θ) → Q v H) : tOp (rIxL K) (tVar j) (tC (.int 2)) σ H Q := by
  obtain ⟨v, hs, a, v1, v2, v3, e, ha, p1, p2, p3⟩ := E.get hΓ
  subst e
  exact ⟨_, hs, a, [v1, v2, v3], 2, v3, rfl, rfl, SqL.of (E.same _ _ ha), rfl, next v3 (E.push p3)⟩
theorem hf_ixM3_2 [Rep α] [Rep β] [Sca γ] {x : ML3 α β γ} (hΓ : Γ[j]? = some (.im x)) : HF K (tOp (rIxL K) (tVar j) (tC (.int 2))) Γ (.ok x.c) := .mk fun X Q E q => by
  obtain ⟨v, hs, a, v1, v2, v3, e, ha, p1, p2, p3⟩ := E.get hΓ
  subst e
  refine ⟨_, hs, a, [v1, v2, v3], 2, v3, rfl, rfl, SqL.of (E.same _ _ ha), rfl, ?_⟩
  rw [p3.1]
  exact q p3.2
theorem st_mk4 [Rep α] [Rep β] [Rep γ] [Rep δ] {x1 : α} {x2 : β} {x3 : γ} {x4 : δ} (E : Env K I H σ Γ (some v4 :: some v3 :: some v2 :: some v1 :: ρ) (.im x4 :: .im x3 :: .im x2 :: .im x1 :: Θ)) (next : ∀ I' H' v, Env K I' H' σ Γ (some v :: ρ) (.im (ML4.mk x1 x2 x3 x4) :: Θ) → Q v H') : LsG [v1, v2, v3, v4] H Q := by
  refine ⟨line_of (by decide : (4 : Nat) ≤ line), fun p hp => ?_⟩
  have r4 := E.topR
  have r3 := E.pop.topR
  have r2 := E.pop.pop.topR
  have r1 := E.pop.pop.pop.topR
  have E2 := E.pop.pop.pop.pop
  have m : ∀ {γ : Type} [Rep γ] {v : V} {z : γ}, Rep.rp K I v z → Rep.rp K (upd I p (.lst [v1, v2, v3, v4])) v z := fun q => Rep.mono (fun a o e => by rw [upd_ne (ne_of_none e (E2.2.2.none_of hp))]; exact e) q
  exact next _ _ _ ((E2.grow (Grow.newI (u := .lst [v1, v2, v3, v4]) E2.same hp)).push ⟨p, v1, v2, v3, v4, rfl, upd_same, m r1, m r2, m r3, m r4⟩)
theorem st_ixM4_0 [Rep α] [Rep β] [Rep γ] [Rep δ] {x : ML4 α β γ δ} (E : Env K I H σ Γ ρ Θ) (hΓ : Γ[j]? = some (.im x)) (next : ∀ v, Env K I H σ Γ (some v :: ρ) (.im x.a :: Θ) → Q v H) : tOp (rIxL K) (tVar j) (tC (.int 0)) σ H Q := by
  obtain ⟨v, hs, a, v1, v2, v3, v4, e, ha, p1, p2, p3, p4⟩ := E.get hΓ
  subst e
  exact ⟨_, hs, a, [v1, v2, v3, v4], 0, v1, rfl, rfl, SqL.of (E.same _ _ ha), rfl, next v1 (E.push p1)⟩
theorem hf_ixM4_0 [Sca α] [Rep β] [Rep γ] [Rep δ] {x : ML4 α β γ δ} (hΓ : Γ[j]? = some (.im x)) : HF K (tOp (rIxL K) (tVar j) (tC (.int 0))) Γ (.ok x.a) := .mk fun X Q E q => by
  obtain ⟨v, hs, a, v1, v2, v3, v4, e, ha, p1, p2, p3, p4⟩ := E.get hΓ
  subst e
  refine ⟨_, hs, a, [v1, v2, v3, v4], 0, v1, rfl, rfl, SqL.of (E.same _ _ ha), rfl, ?_⟩
  rw [p1.1]
  exact q p1.2
theorem st_ixM4_1 [Rep α] [Rep β] [Rep γ] [Rep δ] {x : ML4 α β γ δ} (E : Env K I H σ Γ ρ Θ) (hΓ : Γ[j]? = some (.im x)) (next : ∀ v, Env K I H σ Γ (some v :: ρ) (.im x.b :: Θ) → Q v H) : tOp (rIxL K) (tVar j) (tC (.int 1)) σ H Q := by
  obtain ⟨v, hs, a, v1, v2, v3, v4, e, ha, p1, p2, p3, p4⟩ := E.get hΓ
  subst e
  exact ⟨_, hs, a, [v1, v2, v3, v4], 1, v2, rfl, rfl, SqL.of (E.same _ _ ha), rfl, next v2 (E.push p2)⟩
theorem hf_ixM4_1 [Rep α] [Sca β] [Rep γ] [Rep δ] {x : ML4 α β γ δ} (hΓ : Γ[j]? = some (.im x)) : HF K (tOp (rIxL K) (tVar j) (tC (.int 1))) Γ (.ok x.b) := .mk fun X Q E q => by
  obtain ⟨v, hs, a, v1, v2, v3, v4, e, ha, p1, p2, p3, p4⟩ := E.get hΓ
  subst e
  refine ⟨_, hs, a, [v1, v2, v3, v4], 1, v2, rfl, rfl, SqL.of (E.same _ _ ha), rfl, ?_⟩
  rw [p2.1]
  exact q p2.2
theorem st_ixM4_2 [Rep α] [Rep β] [Rep γ] [Rep δ] {x : ML4 α β γ δ} (E : Env K I H σ Γ ρ Θ) (hΓ : Γ[j]? = some (.im x)) (next : ∀ v, Env K I H σ Γ (some v :: ρ) (.im x.c :: Θ) → Q v H) : tOp (rIxL K) (tVar j) (tC (.int 2)) σ H Q := by
  obtain ⟨v, hs, a, v1, v2, v3, v4, e, ha, p1, p2, p3, p4⟩ := E.get hΓ
  subst e
  exact ⟨_, hs, a, [v1, v2, v3, v4], 2, v3, rfl, rfl, SqL.of (E.same _ _ ha), rfl, next v3 (E.push p3)⟩
theorem hf_ixM4_2 [Rep α] [Rep β] [Sca γ] [Rep δ] {x : ML4 α β γ δ} (hΓ : Γ[j]? = some (.im x)) : HF K (tOp (rIxL K) (tVar j) (tC (.int 2))) Γ (.ok x.c) := .mk fun X Q E q => by
  obtain ⟨v, hs, a, v1, v2, v3, v4, e, ha, p1, p2, p3, p4⟩ := E.get hΓ
  subst e
  refine ⟨_, hs, a, [v1, v2, v3, v4], 2, v3, rfl, rfl, SqL.of (E.same _ _ ha), rfl, ?_⟩
  rw [p3.1]
  exact q p3.2
theorem st_ixM4_3 [Rep α] [Rep β] [Rep γ] [Rep δ] {x : ML4 α β γ δ} (E : Env K I H σ Γ ρ Θ) (hΓ : Γ[j]? = some (.im x)) (next : ∀ v, Env K I H σ Γ (some v :: ρ) (.im x.d :: Θ) → Q v H) : tOp (rIxL K) (tVar j) (tC (.int 3)) σ H Q := by
  obtain ⟨v, hs, a, v1, v2, v3, v4, e, ha, p1, p2, p3, p4⟩ := E.get hΓ
  subst e
  exact ⟨_, hs, a, [v1, v2, v3, v4], 3, v4, rfl, rfl, SqL.of (E.same _ _ ha), rfl, next v4 (E.push p4)⟩
theorem hf_ixM4_3 [Rep α] [Rep β] [Rep γ] [Sca δ] {x : ML4 α β γ δ} (hΓ : Γ[j]? = some (.im x)) : HF K (tOp (rIxL K) (tVar j) (tC (.int 3))) Γ (.ok x.d) := .mk fun X Q E q => by
  obtain ⟨v, hs, a, v1, v2, v3, v4, e, ha, p1, p2, p3, p4⟩ := E.get hΓ
  subst e
  refine ⟨_, hs, a, [v1, v2, v3, v4], 3, v4, rfl, rfl, SqL.of (E.same _ _ ha), rfl, ?_⟩
  rw [p4.1]
  exact q p4.2
end
end M
namespace M
open PySem PySem.Spec PyProof.Rows L2 L2N
/-! ### try with several clauses, each with or without a name for what it catches -/
abbrev Clause : Type := Value × Option Nat × (Addr → Value → Option Addr → TS)
def goneE (i : Nat) (D : Ends) : Ends := { nx := fun σ H => D.nx (σ.set i none) H, rt := D.rt, bk := fun σ H => D.bk (σ.set i none) H, ct := fun σ H => D.ct (σ.set i none) H }
def wGen (K : PySem.W.Frag) (Wout : WX) (D : Ends) : List Clause → WX
  | [] => Wout
  | (c, none, ts) :: r => fun cls d σ H => ∃ b, PySem.W.exmOne K cls c = some b ∧ (b = true → ∀ a, H a = none → ts a cls d D σ H) ∧ (b = false → wGen K Wout D r cls d σ H)
  | (c, some i, ts) :: r => fun cls d σ H => ∃ b, PySem.W.exmOne K cls c = some b ∧ (b = true → ∀ a, H a = none → ts a cls d (goneE i D) (σ.set i (some (.ref a))) H) ∧ (b = false → wGen K Wout D r cls d σ H)
inductive COk (X : Cx) : List ExceptHandler → List Clause → Prop
  | nil : COk X [] []
  | as {x n : Str} {i : Nat} {c : Value} {ts : Addr → Value → Option Addr → TS} {b₀ : Stmt} {su : List Stmt} {np hp : Pos} {hs : List ExceptHandler} {l : List Clause} (hi : X.N[i]? = some n) (hl : X.env.kindOf n = some .local) (hc : Names X x c)
      (hsu : ∀ (a : Addr) (oe : Obj) (cls : Value) (d : Option Addr) (pn : List (Addr × Obj)), L2N.Zn cls d oe → (∃ vs, oe.data = .fields vs) → PSs (X.suite a ((a, oe) :: pn)) (b₀ :: su) (ts a cls d)) (r : COk X hs l) :
      COk X (.ExceptHandler (some (.Name x np)) (some n) (b₀ :: su) hp :: hs) ((c, some i, ts) :: l)
  | no {x : Str} {c : Value} {ts : Addr → Value → Option Addr → TS} {b₀ : Stmt} {su : List Stmt} {np hp : Pos} {hs : List ExceptHandler} {l : List Clause} (hc : Names X x c)
      (hsu : ∀ (a : Addr) (oe : Obj) (cls : Value) (d : Option Addr) (pn : List (Addr × Obj)), L2N.Zn cls d oe → (∃ vs, oe.data = .fields vs) → PSs (X.suite a ((a, oe) :: pn)) (b₀ :: su) (ts a cls d)) (r : COk X hs l) :
      COk X (.ExceptHandler (some (.Name x np)) none (b₀ :: su) hp :: hs) ((c, none, ts) :: l)
def tTryM (tb : WX → TS) (K : PySem.W.Frag) (l : List Clause) : TS := fun D σ H => tb (wGen K (fun _ _ _ _ => False) D l) D σ H
section
variable {X : Cx} {body : List Stmt} {h1 : ExceptHandler} {hs : List ExceptHandler} {l : List Clause} {pos : Pos} {tb : WX → TS}
theorem ps_tryM (est : X.stack = X.env :: X.outer) (efr : X.env.frame = some X.env.locals) (nd : X.N.Nodup)
    (hb : ∀ (W : WX) (pn : List (Addr × Obj)) (xe : Value → Shared → Prop), L2N.Takes (X.tr pn xe) W → PassesOwn (model X.prog X.w) X.A X.env xe → PSs (X.tr pn xe) body (tb W))
    (hh : COk X (h1 :: hs) l) : PS X (.Try body (h1 :: hs) [] [] pos) (tTryM tb X.K l) := by
  have tk : L2N.Takes X (fun _ _ _ _ => False) := takesN0
  refine ⟨fun pins s σ H D I h => wpAny_Try_except ?_⟩
  have okI := I.ok
  have frs1 : X.A.frames = some (X.env :: X.outer) := by rw [okI.frames, est]
  refine wpAny_mono ((hb (wGen X.K (fun _ _ _ _ => False) D l) (X.pn ++ pins) (fun e t1 => wpAny (model X.prog X.w) X.A (noteFrame e X.env) (fun _ t2 => wpAny (model X.prog X.w) X.A (setFlight e none) (fun _ t3 =>
    wpAny (model X.prog X.w) X.A (handleBy e X.env (h1 :: hs)) (SP X pins D) X.xe t3) X.xe t2) X.xe t1) (fun u t0 caught => ?_) PassesOwn.looking).run [] s σ H D (I.toTry _) h) (fun fl t0 post => ?_) (fun _ _ z => z)
  · obtain ⟨a, B, sI, pz, σx, Hx, cls, d, rfl, Jt, inB, upS, sky0, na, eos, bare, w⟩ := caught
    have J : Inv X pins σx Hx sI := Jt.ofTry okI
    have sky : Sky B (X.env :: X.outer) a (L2N.Zn cls d) X.env.locals t0.heap := by rw [← est]; exact sky0
    show wpAny (model X.prog X.w) X.A (noteFrame (.ref a) X.env) _ _ _
    refine Sky.land L2N.Zn.steady frs1 efr sky fun g3 fly3 up3 => ?_
    have J3 : Inv X pins σx Hx { t0 with heap := g3 } := J.landed inB fly3.1 (upS.trans up3) eos bare
    obtain ⟨ob3, ws3, at3, zn3, dt3⟩ := fly3.there
    have off : a ∉ frs (X.env :: X.outer) := fun hm => by
      obtain ⟨_, o2, e2, nf⟩ := fly3.2.2.1.mem hm
      rw [at3] at e2
      cases e2
      exact nf _ dt3
    have offL : a ≠ X.env.locals := fun z => off (List.mem_filterMap.mpr ⟨X.env, List.mem_cons_self, by rw [efr, z]⟩)
    have offF : a ∉ X.fs := fun hm => by
      obtain ⟨e, me, q⟩ := List.mem_filterMap.mp hm
      exact off (List.mem_filterMap.mpr ⟨e, List.mem_cons_of_mem _ me, q⟩)
    have S3 := J3.suite at3 dt3 na offL offF
    have LT : PySem.W.Looks (model X.prog X.w) g3 (typeOf (.ref a)) cls := fun A Q E s k q => wpAny_typeOf_ref (k _ _ at3) (by rw [zn3.1]; exact q)
    have look : ∀ {x : Str} {c : Value} {np : Pos}, Names X x c → ∀ {Q : Value → Shared → Prop} {E : Value → Shared → Prop}, Q c { t0 with heap := g3 } → wpAny (model X.prog X.w) (X.A.mark (some (.ref a))) (eval (.Name x np) X.env) Q E { t0 with heap := g3 } := fun {x c np} hc {Q E} q => by
      obtain ⟨gx, db, k | ⟨k, bv, nn⟩⟩ := hc
      · exact ld_glob (X := X.suite a ((a, ob3) :: (X.pn ++ pins))) S3 gx k q db
      · exact ld_blt (X := X.suite a ((a, ob3) :: (X.pn ++ pins))) S3 gx k bv q nn db
    have go : ∀ {hds : List ExceptHandler} {lc : List Clause}, COk X hds lc → wGen X.K (fun _ _ _ _ => False) D lc cls d σx Hx → wpAny (model X.prog X.w) X.A (handleBy (.ref a) X.env hds) (SP X pins D) X.xe { t0 with heap := g3 } := by
      intro hds lc ck
      induction ck with
      | nil => exact fun z => z.elim
      | @as x n i c ts b₀ su np hp hs2 l2 hi hl hc hsu r ih =>
        rintro ⟨b, eb, yes, no⟩
        refine wpAny_handleBy_cons (codeAny_handlers_test (look hc ((PySem.W.exm_one (M := model X.prog X.w) J3.kIn LT eb).here ?_))) (by intro q; cases q)
        cases b with
        | true =>
          refine codeAny_handlers_suite_as (HandSPX.lands_againZ fly3 fun g4 fly4 up4 => ?_)
          have J4 : Inv X pins σx Hx { t0 with heap := g4 } := J.landed inB fly4.1 ((upS.trans up3).trans up4) eos bare
          obtain ⟨ob4, ws4, at4, zn4, dt4⟩ := fly4.there
          have S4 := J4.suite at4 dt4 na offL offF
          refine store_ok (X := X.suite a ((a, ob4) :: (X.pn ++ pins))) (v := .ref a) S4 nd hi (.inl hl) rfl (fun t5 S5 => ?_) (.inr hl)
          refine wpAny_mono ((hsu a ob4 cls d (X.pn ++ pins) zn4 ⟨_, dt4⟩).run [] t5 _ Hx _ S5 (yes rfl a na)) (fun fl t6 post => ?_) (fun _ _ z => z.elim)
          have fin : ∀ {σy : L2.St} {Hy : Hp} {Q : Shared → Prop}, Inv (X.suite a ((a, ob4) :: (X.pn ++ pins))) [] σy Hy t6 → (∀ t7, Inv X pins (σy.set i none) Hy t7 → Q t7) →
              wpAny (model X.prog X.w) X.A (do bindName X.env n .none; unbindBehindTheSuite X.env n hp) (fun _ t7 => Q t7) X.xe t6 := fun {σy Hy Q} S6 q => gone_ok (S6.unsuite okI) nd hi hl q
          cases fl with
          | next =>
            obtain ⟨σy, Hy, S6, q6⟩ := post
            exact fin S6 fun _ J7 => ⟨_, _, J7, q6⟩
          | brk =>
            obtain ⟨σy, Hy, S6, q6⟩ := post
            exact fin S6 fun _ J7 => ⟨_, _, J7, q6⟩
          | cont =>
            obtain ⟨σy, Hy, S6, q6⟩ := post
            exact fin S6 fun _ J7 => ⟨_, _, J7, q6⟩
          | ret u =>
            obtain ⟨vy, σy, Hy, S6, ry, q6⟩ := post
            exact fin S6 fun _ J7 => ⟨_, _, _, J7, ry, q6⟩
        | false => exact ih (no rfl)
      | @no x c ts b₀ su np hp hs2 l2 hc hsu r ih =>
        rintro ⟨b, eb, yes, no⟩
        refine wpAny_handleBy_cons (codeAny_handlers_test (look hc ((PySem.W.exm_one (M := model X.prog X.w) J3.kIn LT eb).here ?_))) (by intro q; cases q)
        cases b with
        | true =>
          refine codeAny_handlers_suite (HandSPX.lands_againZ fly3 fun g4 fly4 up4 => ?_)
          have J4 : Inv X pins σx Hx { t0 with heap := g4 } := J.landed inB fly4.1 ((upS.trans up3).trans up4) eos bare
          obtain ⟨ob4, ws4, at4, zn4, dt4⟩ := fly4.there
          have S4 := J4.suite at4 dt4 na offL offF
          refine wpAny_mono ((hsu a ob4 cls d (X.pn ++ pins) zn4 ⟨_, dt4⟩).run [] _ _ Hx _ S4 (yes rfl a na)) (fun fl t6 post => ?_) (fun _ _ z => z.elim)
          cases fl with
          | next =>
            obtain ⟨σy, Hy, S6, q6⟩ := post
            exact ⟨_, _, S6.unsuite okI, q6⟩
          | brk =>
            obtain ⟨σy, Hy, S6, q6⟩ := post
            exact ⟨_, _, S6.unsuite okI, q6⟩
          | cont =>
            obtain ⟨σy, Hy, S6, q6⟩ := post
            exact ⟨_, _, S6.unsuite okI, q6⟩
          | ret u =>
            obtain ⟨vy, σy, Hy, S6, ry, q6⟩ := post
            exact ⟨_, _, _, S6.unsuite okI, ry, q6⟩
        | false => exact ih (no rfl)
    exact go hh w
  · cases fl with
    | next =>
      obtain ⟨σy, Hy, Jy, q⟩ := post
      exact wpAny_execs_nil ⟨σy, Hy, Jy.ofTry okI, q⟩
    | brk =>
      obtain ⟨σy, Hy, Jy, q⟩ := post
      exact ⟨σy, Hy, Jy.ofTry okI, q⟩
    | cont =>
      obtain ⟨σy, Hy, Jy, q⟩ := post
      exact ⟨σy, Hy, Jy.ofTry okI, q⟩
    | ret u =>
      obtain ⟨vy, σy, Hy, Jy, ry, q⟩ := post
      exact ⟨vy, σy, Hy, Jy.ofTry okI, ry, q⟩
end
section
variable {K : PySem.W.Frag} {mg : Str → Option Value} {I H I' H' : Hp} {σ σ' ρ : List (Option V)} {Γ Γ' Θ : List Cell} {i j n : Nat} {v : V} {Q : VK} {c : Value} {e : Exn} {Wout : WX} {D : Ends} {r l : List Clause} {ts : Addr → Value → Option Addr → TS} {dn db dc : L2.St → Hp → Prop} {dr : VK}
variable {ω : Type} {P : ω → Prop} {X : Exn → Prop}
theorem wg_as {b : Bool} (hx : ∀ cls, mg e.cls = some cls → PySem.W.exmOne K cls c = some b) (hi : i < Γ.length)
    (yes : b = true → ∀ I H σ' a d cls, mg e.cls = some cls → Env K I H σ' (Γ.set i (.im (⟨a, d, e⟩ : ExV))) ρ Θ → ts a cls (dOf d) (goneE i D) σ' H)
    (no : b = false → XWish K mg (wGen K Wout D r) σ Γ ρ Θ e) : XWish K mg (wGen K Wout D ((c, some i, ts) :: r)) σ Γ ρ Θ e := fun I' H' cls d hm E =>
  ⟨b, hx cls hm, fun hb a _ => yes hb I' H' _ a d cls hm (E.caught hi), fun hb => no hb I' H' cls d hm E⟩
theorem wg_no {b : Bool} (hx : ∀ cls, mg e.cls = some cls → PySem.W.exmOne K cls c = some b)
    (yes : b = true → ∀ I H (a : Addr) (d : V) cls, mg e.cls = some cls → Env K I H σ Γ ρ Θ → ts a cls (dOf d) D σ H)
    (no : b = false → XWish K mg (wGen K Wout D r) σ Γ ρ Θ e) : XWish K mg (wGen K Wout D ((c, none, ts) :: r)) σ Γ ρ Θ e := fun I' H' cls d hm E =>
  ⟨b, hx cls hm, fun hb a _ => yes hb I' H' a d cls hm E.pop, fun hb => no hb I' H' cls d hm E⟩
theorem st_tryM {ρτ S : Type} {tb : WX → TS} {m : Res (Lp ρτ S)} {f : Exn → Res (Lp ρτ S)} {k : Lp ρτ S → Res ω} (ΓT : List Cell) (R : ρτ → Prop) (G : S → List Cell) (E : Env K I H σ Γ ρ Θ) (h : wp ((m.catch f).bind k) P X)
    (ret : ∀ r, wp (k (.ret r)) P X → R r) (rest : ∀ s I' H' σ', Env K I' H' σ' (G s) ρ Θ → wp (k (.fin s)) P X → dn σ' H')
    (han : ∀ e, wp (f e) (TryP K G ρ Θ dn R) X → ∀ σ, XWish K mg (wGen K (fun _ _ _ _ => False) ⟨dn, dr, db, dc⟩ l) σ ΓT ρ Θ e)
    (body : (∀ e, wp (f e) (TryP K G ρ Θ dn R) X → ∀ σ, XWish K mg (wGen K (fun _ _ _ _ => False) ⟨dn, dr, db, dc⟩ l) σ ΓT ρ Θ e) → wp m (TryP K G ρ Θ dn R) (fun e => wp (f e) (TryP K G ρ Θ dn R) X) → tb (wGen K (fun _ _ _ _ => False) ⟨dn, dr, db, dc⟩ l) ⟨dn, dr, db, dc⟩ σ H) :
    tTryM tb K l ⟨dn, dr, db, dc⟩ σ H := by
  have h2 : wp (m.catch f) (TryP K G ρ Θ dn R) X := wp_mono (wp_bind.mp h) (fun y q => by
    cases y with
    | fin s => exact fun I' H' σ' E' => rest s I' H' σ' E' q
    | ret r => exact ret r q) fun _ z => z
  exact body han (wp_catch h2)
end
end M
namespace M
open PySem PySem.Spec PyProof.Rows L2
/-- a and b, a or b as values: the ways meet -/
theorem st_orV {K : PySem.W.Frag} {I H : Hp} {σ ρ : List (Option V)} {Γ Θ : List Cell} {Q : VK} {ω : Type} {P : ω → Prop} {X : Exn → Prop} {b : Bool} {mB : Res Bool} {k : Bool → Res ω} {tb : TE} (E : Env K I H σ Γ ρ Θ) (h : wp ((if b = true then .ok true else mB).bind k) P X)
    (h2 : wp mB (fun a => ∀ I' H' v, Env K I' H' σ Γ (some v :: ρ) (.im a :: Θ) → Q v H') X → tb σ H Q)
    (next : ∀ a I' H' v, Env K I' H' σ Γ (some v :: ρ) (.im a :: Θ) → wp (k a) P X → Q v H') : if b = true then Q (.bl true) H else tb σ H Q := by
  cases b with
  | true => exact next true I H _ (E.pushS (α := Bool) (a := true) trivial) h
  | false => exact h2 (wpb h fun a h I' H' v E => next a I' H' v E h)
theorem st_andV {K : PySem.W.Frag} {I H : Hp} {σ ρ : List (Option V)} {Γ Θ : List Cell} {Q : VK} {ω : Type} {P : ω → Prop} {X : Exn → Prop} {b : Bool} {mB : Res Bool} {k : Bool → Res ω} {tb : TE} (E : Env K I H σ Γ ρ Θ) (h : wp ((if b = true then mB else .ok false).bind k) P X)
    (h2 : wp mB (fun a => ∀ I' H' v, Env K I' H' σ Γ (some v :: ρ) (.im a :: Θ) → Q v H') X → tb σ H Q)
    (next : ∀ a I' H' v, Env K I' H' σ Γ (some v :: ρ) (.im a :: Θ) → wp (k a) P X → Q v H') : if b = true then tb σ H Q else Q (.bl false) H := by
  cases b with
  | true => exact h2 (wpb h fun a h I' H' v E => next a I' H' v E h)
  | false => exact next false I H _ (E.pushS (α := Bool) (a := false) trivial) h
end M
namespace M
open PySem PySem.Spec PyProof PyProof.Rows L2
section
variable {X : Cx} {x : Str} {p pos : Pos} {e : Expr} {t : TA} {K : PySem.W.Frag}
/-- list(e), the frag named -/
theorem pe_lstOf (hK : X.K = K) (hg : Gl X x) (hm : X.mg x = none) (hv : bootBuiltins x = some (.type "list")) (ha : PA X [e] t) (hn : x ≠ "__name__" := by decide) (hdb : (x == ("__debug__" : Str)) = false := by decide)
    (he : starEach [e] X.env = (false, eval e X.env) :: starEach [] X.env := by rfl) (hpl : (backTo pos (starEach [] X.env)).any (·.1) = false := by rfl) : PE X (.Call (.Name x p) [e] [] pos) (tCB (rListOf K) t) :=
  hK ▸ pe_callTy call_list_of hg hm hv ha hn hdb he hpl
theorem pe_tupOf (hK : X.K = K) (hg : Gl X x) (hm : X.mg x = none) (hv : bootBuiltins x = some (.type "tuple")) (ha : PA X [e] t) (hn : x ≠ "__name__" := by decide) (hdb : (x == ("__debug__" : Str)) = false := by decide)
    (he : starEach [e] X.env = (false, eval e X.env) :: starEach [] X.env := by rfl) (hpl : (backTo pos (starEach [] X.env)).any (·.1) = false := by rfl) : PE X (.Call (.Name x p) [e] [] pos) (tCB (rTupOf K) t) :=
  hK ▸ pe_callTy call_tuple_of hg hm hv ha hn hdb he hpl
end
end M
namespace M
open PySem PySem.Spec PyProof PyProof.Rows L2
theorem ix_listK {X : Cx} {K : PySem.W.Frag} (hK : X.K = K) : IxR X (rIxL K) := hK ▸ ix_list
theorem ix_tupK {X : Cx} {K : PySem.W.Frag} (hK : X.K = K) : IxR X (rIxT K) := hK ▸ ix_tup
end M
/-! plain facts about the mirrors' words -/
namespace M
open PySem L2
theorem rngR_ok {lo hi : Int} (h : RgOk lo hi) : rngR lo hi = .ok (rng lo hi) := by unfold rngR; rw [clo_eq]; exact if_pos h
theorem rgOk {lo hi : Int} (h1 : -1000000 ≤ lo) (h2 : lo ≤ 1000000) (h3 : -1000000 ≤ hi) (h4 : hi ≤ 1000000) : RgOk lo hi := by unfold RgOk; omega
theorem mem_rng {lo hi x : Int} : x ∈ rng lo hi ↔ lo ≤ x ∧ x < hi := by
  unfold rng
  rw [List.mem_map]
  constructor
  · rintro ⟨i, hi, rfl⟩
    have := List.mem_range.mp hi
    omega
  · rintro ⟨h1, h2⟩
    exact ⟨(x - lo).toNat, List.mem_range.mpr (by omega), by omega⟩
theorem rng_len {lo hi : Int} : (rng lo hi).length = (hi - lo).toNat := by unfold rng; simp
theorem modI_ok {x y : Int} (h : 0 < y) : modI x y = .ok (x % y) := by unfold modI; exact if_pos h
theorem log2_le {n k : Nat} (h : n < 2 ^ k) : n.log2 ≤ k := by
  by_cases e : n = 0
  · subst e; simp
  · exact Nat.le_of_lt ((Nat.log2_lt e).mpr h)
theorem divI_ok {x y : Int} (h : 0 < y) (h2 : y < 2 ^ 1000) : divI x y = .ok (x / y) := by
  unfold divI
  rw [clo_eq]
  refine if_pos ⟨h, ?_⟩
  have : y.natAbs < 2 ^ 1000 := by omega
  exact Nat.lt_of_le_of_lt (log2_le this) (by decide)
theorem mulI_ok {x y : Int} (h : x.natAbs < 2 ^ 1000) (h2 : y.natAbs < 2 ^ 1000) : mulI x y = .ok (x * y) := by
  unfold mulI
  rw [clo_eq]
  refine if_pos ?_
  have a := log2_le h
  have b := log2_le h2
  omega
theorem xCat_ok {a b : Tx} (h : a.length + b.length ≤ 100000) : xCat a b = .ok (a ++ b) := by
  unfold xCat
  rw [clo_eq]
  exact if_pos (Nat.le_trans h (by decide))
theorem ixN_nat {n k : Nat} (h : k < n) : ixN n (k : Int) = some k := by
  unfold ixN
  rw [if_pos (by omega), if_pos (by omega), Int.toNat_natCast]
theorem atI_nat {α : Type} {xs : List α} {k : Nat} (h : k < xs.length) : atI xs (k : Int) = some xs[k] := by
  unfold atI
  rw [ixN_nat h]
  exact List.getElem?_eq_getElem h
theorem lGet_nat {α : Type} {xs : List α} {k : Nat} (h : k < xs.length) : lGet xs (k : Int) = .ok xs[k] := by
  unfold lGet
  rw [atI_nat h]
theorem lGet_int {α : Type} {xs : List α} {i : Int} (h0 : 0 ≤ i) (h : i.toNat < xs.length) : lGet xs i = .ok xs[i.toNat] := by
  have e : ((i.toNat : Nat) : Int) = i := by omega
  have q := lGet_nat h
  rw [e] at q
  exact q
theorem xGet_nat {w : Tx} {k : Nat} (h : k < w.length) : xGet w (k : Int) = .ok [w[k]] := by
  unfold xGet
  rw [atI_nat h]
theorem xGet_int {w : Tx} {i : Int} (h0 : 0 ≤ i) (h : i.toNat < w.length) : xGet w i = .ok [w[i.toNat]] := by
  have e : ((i.toNat : Nat) : Int) = i := by omega
  have q := xGet_nat h
  rw [e] at q
  exact q
theorem lSet_nat {α : Type} {xs : List α} {k : Nat} {y : α} (h : k < xs.length) : lSet xs (k : Int) y = .ok (xs.set k y) := by
  unfold lSet
  rw [ixN_nat h]
theorem lApp_ok {α : Type} {xs : List α} {x : α} (h : xs.length < 100000) : lApp xs x = .ok (xs ++ [x]) := by
  unfold lApp
  rw [clo_eq]
  exact if_pos (Nat.lt_of_lt_of_le h (by decide))
theorem xRep_ok {w : Tx} {n : Int} (h0 : 0 ≤ n) (h1 : n ≤ 100000) (h2 : w.length * n.toNat ≤ 100000) : xRep w n = .ok (List.replicate n.toNat w).flatten := by
  unfold xRep
  rw [clo_eq]
  refine if_pos ⟨by omega, by omega, Nat.le_trans h2 (by decide)⟩
theorem lPopAt0 {α : Type} {x : α} {xs : List α} : lPopAt (x :: xs) (0 : Int) = .ok (x, xs) := by
  unfold lPopAt
  rw [clo_eq]
  rw [if_pos (by decide)]
  have e : seqIndex? (0 : Int) (x :: xs).length = some 0 := by
    unfold seqIndex?
    simp
  rw [e]
  rfl
/-! slices -/
theorem cut_from {α : Type} (xs : List α) (k : Nat) : cutL xs (some (k : Int)) none = xs.drop k := by
  unfold cutL
  rw [HT.sIx_nat]
  show (xs.drop (min k xs.length)).take (xs.length - min k xs.length) = _
  rw [List.take_of_length_le (by rw [List.length_drop]; omega)]
  by_cases h : k ≤ xs.length
  · rw [Nat.min_eq_left h]
  · rw [Nat.min_eq_right (by omega), List.drop_of_length_le (Nat.le_refl _), List.drop_of_length_le (by omega)]
theorem cut_to {α : Type} (xs : List α) (k : Nat) : cutL xs none (some (k : Int)) = xs.take k := by
  unfold cutL
  rw [HT.sIx_nat]
  show (xs.drop 0).take (min k xs.length - 0) = _
  rw [List.drop_zero, Nat.sub_zero]
  by_cases h : k ≤ xs.length
  · rw [Nat.min_eq_left h]
  · rw [Nat.min_eq_right (by omega), List.take_of_length_le (Nat.le_refl _), List.take_of_length_le (by omega)]
theorem cut_mid {α : Type} (xs : List α) (i j : Nat) : cutL xs (some (i : Int)) (some (j : Int)) = (xs.drop i).take (j - i) := by
  unfold cutL
  rw [HT.sIx_nat, HT.sIx_nat]
  by_cases h : i ≤ xs.length
  · rw [Nat.min_eq_left h]
    by_cases h2 : j ≤ xs.length
    · rw [Nat.min_eq_left h2]
    · rw [Nat.min_eq_right (by omega), List.take_of_length_le (by rw [List.length_drop]; omega), List.take_of_length_le (by rw [List.length_drop]; omega)]
  · rw [Nat.min_eq_right (by omega : xs.length ≤ i), List.drop_of_length_le (Nat.le_refl _), List.drop_of_length_le (by omega : xs.length ≤ i)]
    simp
theorem cut_last {α : Type} (xs : List α) (k : Nat) (h : 0 < k) : cutL xs (some (-(k : Int))) none = xs.drop (xs.length - k) := by
  unfold cutL
  have e : HT.sIx xs.length 0 (some (-(k : Int))) = xs.length - k := by
    show (if -(k : Int) < 0 then (-(k : Int) + (xs.length : Int)).toNat else _) = _
    rw [if_pos (by omega)]
    omega
  rw [e]
  show (xs.drop (xs.length - k)).take (xs.length - (xs.length - k)) = _
  rw [List.take_of_length_le (by rw [List.length_drop]; omega)]
/-! loops -/
/-- a search: the first x with P x -/
theorem forR_find {α ρ : Type} {f : α → Unit → Res (Fl ρ Unit)} {P : α → Bool} {g : α → ρ} : ∀ {xs : List α}, (∀ x ∈ xs, f x () = .ok (if P x = true then .rt (g x) else .nx ())) →
    forR f xs () = .ok (match xs.find? P with | some x => .ret (g x) | none => .fin ())
  | [], _ => forR_nil
  | x :: xs, h => by
    rw [forR_cons, h x List.mem_cons_self, Res.bind_ok]
    cases hp : P x with
    | true => rw [List.find?_cons_of_pos hp]; rfl
    | false =>
      rw [List.find?_cons_of_neg (by rw [hp]; decide)]
      exact forR_find fun y hy => h y (List.mem_cons_of_mem _ hy)
/-- nothing is found -/
theorem forR_all {α ρ S : Type} {f : α → S → Res (Fl ρ S)} {s : S} : ∀ {xs : List α}, (∀ x ∈ xs, f x s = .ok (.nx s)) → forR f xs s = .ok (.fin s)
  | [], _ => forR_nil
  | x :: xs, h => by
    rw [forR_cons, h x List.mem_cons_self, Res.bind_ok]
    exact forR_all fun y hy => h y (List.mem_cons_of_mem _ hy)
/-- each turn goes on -/
theorem forR_fold {α ρ S : Type} {f : α → S → Res (Fl ρ S)} {g : S → α → S} : ∀ {xs : List α} {s : S} (Iv : S → Prop), Iv s → (∀ x ∈ xs, ∀ s, Iv s → f x s = .ok (.nx (g s x)) ∧ Iv (g s x)) → forR f xs s = .ok (.fin (xs.foldl g s)) ∧ Iv (xs.foldl g s)
  | [], _, _, h0, _ => ⟨forR_nil, h0⟩
  | x :: xs, s, Iv, h0, h => by
    obtain ⟨e, h1⟩ := h x List.mem_cons_self s h0
    rw [forR_cons, e, Res.bind_ok]
    exact forR_fold Iv h1 fun y hy => h y (List.mem_cons_of_mem _ hy)
theorem forS_inv {α S : Type} {f : α → S → Res S} (Iv : Nat → S → Prop) : ∀ {xs : List α} {s : S} {k : Nat}, Iv k s → (∀ j s x, x ∈ xs → j < k + xs.length → Iv j s → ∃ s', f x s = .ok s' ∧ Iv (j + 1) s') → ∃ s', forS f xs s = .ok s' ∧ Iv (k + xs.length) s'
  | [], s, k, h0, _ => ⟨s, forS_nil, h0⟩
  | x :: xs, s, k, h0, h => by
    obtain ⟨s1, e, h1⟩ := h k s x List.mem_cons_self (by simp) h0
    obtain ⟨s2, e2, h2⟩ := forS_inv Iv (xs := xs) h1 fun k s y hy hk => h k s y (List.mem_cons_of_mem _ hy) (by rw [List.length_cons]; omega)
    refine ⟨s2, ?_, ?_⟩
    · rw [forS_cons, e, Res.bind_ok, e2]
    · rw [List.length_cons]
      have e3 : k + (xs.length + 1) = k + 1 + xs.length := by omega
      rw [e3]
      exact h2
theorem forS_use {α S γ : Type} {f : α → S → Res S} {K : S → Res γ} {xs : List α} {s : S} (motive : Res γ → Prop) (Iv : Nat → S → Prop) (h0 : Iv 0 s) (step : ∀ k s x, x ∈ xs → k < xs.length → Iv k s → ∃ s', f x s = .ok s' ∧ Iv (k + 1) s')
    (h : ∀ s', Iv xs.length s' → motive (K s')) : motive ((forS f xs s).bind K) := by
  obtain ⟨s', e, i⟩ := forS_inv Iv h0 (by rw [Nat.zero_add]; exact step)
  rw [e, Res.bind_ok]
  rw [Nat.zero_add] at i
  exact h s' i
theorem mapR_ok {α β : Type} {f : α → Res β} {g : α → β} : ∀ {xs : List α}, (∀ x ∈ xs, f x = .ok (g x)) → mapR f xs = .ok (xs.map g)
  | [], _ => mapR_nil
  | x :: xs, h => by
    rw [mapR_cons, h x List.mem_cons_self, Res.bind_ok, mapR_ok fun y hy => h y (List.mem_cons_of_mem _ hy), Res.bind_ok]
    rfl
theorem filR_ok {α β : Type} {t : α → Res Bool} {f : α → Res β} {p : α → Bool} {g : α → β} : ∀ {xs : List α}, (∀ x ∈ xs, t x = .ok (p x)) → (∀ x ∈ xs, f x = .ok (g x)) → filR t f xs = .ok ((xs.filter p).map g)
  | [], _, _ => filR_nil
  | x :: xs, h, h2 => by
    rw [filR_cons, h x List.mem_cons_self, Res.bind_ok]
    have ih := filR_ok (xs := xs) (fun y hy => h y (List.mem_cons_of_mem _ hy)) fun y hy => h2 y (List.mem_cons_of_mem _ hy)
    cases hp : p x with
    | true =>
      rw [if_pos rfl, h2 x List.mem_cons_self, Res.bind_ok, ih, Res.bind_ok, List.filter_cons_of_pos hp]
      rfl
    | false =>
      rw [if_neg (by decide), ih, List.filter_cons_of_neg (by rw [hp]; decide)]
theorem lcM_ok {α β : Type} {f : α → Res β} {g : α → β} {xs : List α} (hl : xs.length ≤ 100000) (h : ∀ x ∈ xs, f x = .ok (g x)) : lcM f xs = .ok (xs.map g) := by
  unfold lcM
  rw [clo_eq]
  rw [if_pos (Nat.le_trans hl (by decide)), mapR_ok h]
theorem lcR_ok {α β : Type} {t : α → Res Bool} {f : α → Res β} {p : α → Bool} {g : α → β} {xs : List α} (hl : xs.length ≤ 100000) (h : ∀ x ∈ xs, t x = .ok (p x)) (h2 : ∀ x ∈ xs, f x = .ok (g x)) : lcR t f xs = .ok ((xs.filter p).map g) := by
  unfold lcR
  rw [clo_eq]
  rw [if_pos (Nat.le_trans hl (by decide)), filR_ok h h2]
/-! while -/
theorem fuel_eq : fuel = 100000 := clo_eq _
theorem while_n {ρ S : Type} {c : S → Res Bool} {f : S → Res (Fl ρ S)} (Iv Post : S → Prop) (μ : S → Nat) (step : ∀ s, Iv s → ∃ b, c s = .ok b ∧ (b = true → ∃ s', f s = .ok (.nx s') ∧ Iv s' ∧ μ s' < μ s) ∧ (b = false → Post s)) :
    ∀ (n : Nat) (s : S), Iv s → μ s < n → ∃ s', whileR c f n s = .ok (.fin s') ∧ Post s'
  | 0, _, _, h => absurd h (Nat.not_lt_zero _)
  | n + 1, s, hi, hm => by
    obtain ⟨b, e, h1, h2⟩ := step s hi
    rw [whileR_succ, e, Res.bind_ok]
    cases b with
    | false => exact ⟨s, by rw [if_neg (by decide)], h2 rfl⟩
    | true =>
      obtain ⟨s', e', hi', hm'⟩ := h1 rfl
      rw [if_pos rfl, e', Res.bind_ok]
      exact while_n Iv Post μ step n s' hi' (by omega)
/-- for a goal that holds of what the loop comes to -/
theorem while_use {ρ S γ : Type} {c : S → Res Bool} {f : S → Res (Fl ρ S)} {K : Lp ρ S → Res γ} {s : S} (motive : Res γ → Prop) (Iv Post : S → Prop) (μ : S → Nat) (h0 : Iv s) (hm : μ s < 100000)
    (step : ∀ s, Iv s → ∃ b, c s = .ok b ∧ (b = true → ∃ s', f s = .ok (.nx s') ∧ Iv s' ∧ μ s' < μ s) ∧ (b = false → Post s)) (h : ∀ s', Post s' → motive (K (.fin s'))) : motive ((whileR c f fuel s).bind K) := by
  rw [fuel_eq]
  obtain ⟨s', e, p⟩ := while_n Iv Post μ step 100000 s h0 hm
  rw [e, Res.bind_ok]
  exact h s' p
theorem forS_fold {α S : Type} {f : α → S → Res S} {g : S → α → S} (Iv : S → Prop) : ∀ {xs : List α} {s : S}, Iv s → (∀ x ∈ xs, ∀ s, Iv s → f x s = .ok (g s x) ∧ Iv (g s x)) → forS f xs s = .ok (xs.foldl g s) ∧ Iv (xs.foldl g s)
  | [], _, h0, _ => ⟨forS_nil, h0⟩
  | x :: xs, s, h0, h => by
    obtain ⟨e, h1⟩ := h x List.mem_cons_self s h0
    rw [forS_cons, e, Res.bind_ok]
    exact forS_fold Iv h1 fun y hy => h y (List.mem_cons_of_mem _ hy)
/-- turns over lo, lo + 1, .. : the invariant by the place -/
theorem forS_rng {S γ : Type} {f : Int → S → Res S} {K : S → Res γ} {lo n : Nat} {s : S} (motive : Res γ → Prop) (Iv : Nat → S → Prop) (hl : lo ≤ n) (h0 : Iv lo s) (step : ∀ (k : Nat) (s : S), lo ≤ k → k < n → Iv k s → ∃ s', f (k : Int) s = .ok s' ∧ Iv (k + 1) s') (h : ∀ s', Iv n s' → motive (K s')) :
    motive ((forS f (rng (lo : Int) (n : Int)) s).bind K) := by
  have main : ∀ (d k : Nat) (s : S), k + d = n → lo ≤ k → Iv k s → ∃ s', forS f ((List.range' k d).map fun (i : Nat) => (i : Int)) s = .ok s' ∧ Iv n s' := by
    intro d
    induction d with
    | zero => exact fun k s e _ hk => ⟨s, forS_nil, by have : k = n := by omega
                                                       rw [← this]; exact hk⟩
    | succ d ih =>
      intro k s e hlk hk
      obtain ⟨s1, e1, h1⟩ := step k s hlk (by omega) hk
      obtain ⟨s2, e2, h2⟩ := ih (k + 1) s1 (by omega) (by omega) h1
      refine ⟨s2, ?_, h2⟩
      rw [List.range'_succ, List.map_cons, forS_cons, e1, Res.bind_ok]
      exact e2
  have er : rng (lo : Int) (n : Int) = (List.range' lo (n - lo)).map fun (i : Nat) => (i : Int) := by
    unfold rng
    have e1 : ((n : Int) - (lo : Int)).toNat = n - lo := by omega
    rw [e1, List.range'_eq_map_range, List.map_map]
    apply List.map_congr_left
    intro i _
    show (lo : Int) + (i : Int) = ((lo + i : Nat) : Int)
    omega
  obtain ⟨s', e, hs⟩ := main (n - lo) lo s (by omega) (Nat.le_refl _) h0
  rw [er, e, Res.bind_ok]
  exact h s' hs
end M
/-! what a mirror comes to, step by step -/
namespace M
open PySem L2
def Ok {α : Type} (m : Res α) (P : α → Prop) : Prop := ∃ a, m = .ok a ∧ P a
section
variable {α β γ ρ S : Type} {P Q : α → Prop}
theorem ok_ret {a : α} (h : P a) : Ok (.ok a) P := ⟨a, rfl, h⟩
theorem ok_bind {m : Res β} {f : β → Res α} (h : Ok m fun b => Ok (f b) P) : Ok (m.bind f) P := by
  obtain ⟨b, rfl, h⟩ := h
  exact h
theorem ok_mono {m : Res α} (h : Ok m Q) (k : ∀ a, Q a → P a) : Ok m P := by
  obtain ⟨a, e, h⟩ := h
  exact ⟨a, e, k a h⟩
theorem ok_eq {m : Res α} {a : α} (e : m = .ok a) (h : P a) : Ok m P := ⟨a, e, h⟩
theorem Ok.get {m : Res α} {a : α} (h : Ok m fun x => x = a) : m = .ok a := by
  obtain ⟨b, e, rfl⟩ := h
  exact e
theorem ok_ite {c : Bool} {m n : Res α} (h : c = true → Ok m P) (k : c = false → Ok n P) : Ok (if c = true then m else n) P := by
  cases c with
  | true => rw [if_pos rfl]; exact h rfl
  | false => rw [if_neg (by decide)]; exact k rfl
theorem ok_nt {m n : Res α} (h : Ok n P) : Ok (if (!true) = true then m else n) P := h
theorem ok_nf {m n : Res α} (h : Ok m P) : Ok (if (!false) = true then m else n) P := h
theorem ok_tt {m n : Res α} (h : Ok m P) : Ok (if true = true then m else n) P := h
theorem ok_ff {m n : Res α} (h : Ok n P) : Ok (if false = true then m else n) P := h
theorem ok_modI {x y : Int} {P : Int → Prop} (h : 0 < y) (k : P (x % y)) : Ok (modI x y) P := ⟨_, modI_ok h, k⟩
theorem ok_divI {x y : Int} {P : Int → Prop} (h : 0 < y) (h2 : y < 1000000000000) (k : P (x / y)) : Ok (divI x y) P := ⟨_, divI_ok h (Int.lt_trans h2 (by decide +kernel)), k⟩
theorem small_nat {x : Int} (h : -1000000000000 < x ∧ x < 1000000000000) : x.natAbs < 2 ^ 1000 := Nat.lt_of_lt_of_le (by omega : x.natAbs < 1000000000000) (by decide +kernel)
theorem ok_mulI {x y : Int} {P : Int → Prop} (h : -1000000000000 < x ∧ x < 1000000000000) (h2 : -1000000000000 < y ∧ y < 1000000000000) (k : P (x * y)) : Ok (mulI x y) P := ⟨_, mulI_ok (small_nat h) (small_nat h2), k⟩
theorem ok_xCat {a b : Tx} {P : Tx → Prop} (h : a.length + b.length ≤ 100000) (k : P (a ++ b)) : Ok (xCat a b) P := ⟨_, xCat_ok h, k⟩
theorem ok_xRep {w : Tx} {n : Int} {P : Tx → Prop} (h0 : 0 ≤ n) (h1 : n ≤ 100000) (h2 : w.length * n.toNat ≤ 100000) (k : P (List.replicate n.toNat w).flatten) : Ok (xRep w n) P := ⟨_, xRep_ok h0 h1 h2, k⟩
theorem ok_lApp {xs : List α} {x : α} {P : List α → Prop} (h : xs.length < 100000) (k : P (xs ++ [x])) : Ok (lApp xs x) P := ⟨_, lApp_ok h, k⟩
theorem ok_lCat {xs ys : List α} {P : List α → Prop} (h : xs.length + ys.length ≤ 100000) (k : P (xs ++ ys)) : Ok (lCat xs ys) P := by
  refine ⟨xs ++ ys, ?_, k⟩
  unfold lCat
  rw [clo_eq]
  exact if_pos (Nat.le_trans h (by decide))
theorem ok_lRep {xs : List α} {n : Int} {P : List α → Prop} (h0 : 0 ≤ n) (h1 : n ≤ 100000) (h2 : xs.length * n.toNat ≤ 100000) (k : P (List.replicate n.toNat xs).flatten) : Ok (lRep xs n) P := by
  refine ⟨_, ?_, k⟩
  unfold lRep
  rw [clo_eq]
  refine if_pos ⟨by omega, by omega, Nat.le_trans h2 (by decide)⟩
theorem ok_rngR {a b : Int} {P : List Int → Prop} (h1 : -1000000000000 ≤ a ∧ a ≤ 1000000000000) (h2 : -1000000000000 ≤ b ∧ b ≤ 1000000000000) (k : P (rng a b)) : Ok (rngR a b) P := ⟨_, rngR_ok (by unfold RgOk; omega), k⟩
theorem ok_rngL {b : Int} {P : List Int → Prop} (h2 : -1000000 ≤ b ∧ b ≤ 1000000) (k : P (rng 0 b)) : Ok (rngL b) P := by
  refine ⟨_, ?_, k⟩
  unfold rngL
  rw [clo_eq]
  refine if_pos ?_
  unfold L2.RgOk
  omega
theorem ok_lGet [Inhabited α] {xs : List α} {i : Int} (h0 : 0 ≤ i) (h : i < xs.length) (k : P (xs.getD i.toNat default)) : Ok (lGet xs i) P := by
  have hl : i.toNat < xs.length := by omega
  refine ⟨_, lGet_int h0 hl, ?_⟩
  rw [List.getD_eq_getElem?_getD, List.getElem?_eq_getElem hl] at k
  exact k
theorem ok_lGetE {xs : List α} {i : Int} (h0 : 0 ≤ i) (h : i < xs.length) (k : ∀ h : i.toNat < xs.length, P xs[i.toNat]) : Ok (lGet xs i) P := ⟨_, lGet_int h0 (by omega), k _⟩
theorem ok_xGet {w : Tx} {i : Int} {P : Tx → Prop} (h0 : 0 ≤ i) (h : i < w.length) (k : P [w.getD i.toNat 0]) : Ok (xGet w i) P := by
  have hl : i.toNat < w.length := by omega
  refine ⟨_, xGet_int h0 hl, ?_⟩
  rw [List.getD_eq_getElem?_getD, List.getElem?_eq_getElem hl] at k
  exact k
theorem ok_lSet {xs : List α} {i : Int} {y : α} {P : List α → Prop} (h0 : 0 ≤ i) (h : i < xs.length) (k : P (xs.set i.toNat y)) : Ok (lSet xs i y) P := by
  have e : ((i.toNat : Nat) : Int) = i := by omega
  have q := lSet_nat (xs := xs) (k := i.toNat) (y := y) (by omega)
  rw [e] at q
  exact ⟨_, q, k⟩
theorem ok_noX {m : Res α} (h : Ok m P) : Ok (noX m) P := by
  obtain ⟨a, rfl, h⟩ := h
  exact ⟨a, rfl, h⟩
theorem ok_lcM {f : α → Res β} {g : α → β} {xs : List α} {P : List β → Prop} (hl : xs.length ≤ 100000) (h : ∀ x ∈ xs, Ok (f x) fun y => y = g x) (k : P (xs.map g)) : Ok (lcM f xs) P := ⟨_, lcM_ok hl fun x hx => (h x hx).get, k⟩
theorem ok_lcR {t : α → Res Bool} {f : α → Res β} {p : α → Bool} {g : α → β} {xs : List α} {P : List β → Prop} (hl : xs.length ≤ 100000) (h : ∀ x ∈ xs, Ok (t x) fun y => y = p x) (h2 : ∀ x ∈ xs, Ok (f x) fun y => y = g x)
    (k : P ((xs.filter p).map g)) : Ok (lcR t f xs) P := ⟨_, lcR_ok hl (fun x hx => (h x hx).get) fun x hx => (h2 x hx).get, k⟩
theorem rng_nil {a b : Int} (h : b ≤ a) : rng a b = [] := by
  unfold rng
  have : (b - a).toNat = 0 := by omega
  rw [this]
  rfl
theorem rng_cons {a b : Int} (h : a < b) : rng a b = a :: rng (a + 1) b := by
  unfold rng
  obtain ⟨n, hn⟩ : ∃ n, (b - a).toNat = n + 1 := ⟨(b - a).toNat - 1, by omega⟩
  have h2 : (b - (a + 1)).toNat = n := by omega
  rw [hn, h2, List.range_succ_eq_map, List.map_cons, List.map_map]
  congr 1
  · simp
  · apply List.map_congr_left
    intro i _
    simp
    omega
/-- a loop over lo, lo + 1, .. -/
theorem ok_forS {f : Int → S → Res S} {b : Int} {P : S → Prop} (Iv : Int → S → Prop) {a : Int} {s : S} (hab : a ≤ b) (h0 : Iv a s) (step : ∀ k s, a ≤ k → k < b → Iv k s → Ok (f k s) (Iv (k + 1))) (post : ∀ s, Iv b s → P s) : Ok (forS f (rng a b) s) P := by
  have main : ∀ (n : Nat) (k : Int) (s : S), a ≤ k → k + n = b → Iv k s → Ok (forS f (rng k b) s) P := by
    intro n
    induction n with
    | zero =>
      intro k s _ e i
      rw [rng_nil (by omega)]
      have : k = b := by omega
      subst this
      exact ⟨s, forS_nil, post s i⟩
    | succ n ih =>
      intro k s h1 e i
      obtain ⟨s', e', i'⟩ := step k s h1 (by omega) i
      rw [rng_cons (by omega), forS_cons, e', Res.bind_ok]
      exact ih (k + 1) s' (by omega) (by omega) i'
  exact main (b - a).toNat a s (Int.le_refl _) (by omega) h0
/-- the same by natural numbers -/
theorem ok_forN {f : Int → S → Res S} {P : S → Prop} (Iv : Nat → S → Prop) {a b : Nat} {s : S} (hab : a ≤ b) (h0 : Iv a s) (step : ∀ (k : Nat) s, a ≤ k → k < b → Iv k s → Ok (f (k : Int) s) (Iv (k + 1))) (post : ∀ s, Iv b s → P s) : Ok (forS f (rng (a : Int) (b : Int)) s) P := by
  refine ok_forS (fun k s => Iv k.toNat s) (by omega) (by simpa using h0) (fun k s h1 h2 i => ?_) (fun s i => post s (by simpa using i))
  obtain ⟨n, rfl⟩ : ∃ n : Nat, k = (n : Int) := ⟨k.toNat, by omega⟩
  have e : ((n : Int) + 1).toNat = n + 1 := by omega
  rw [e]
  rw [Int.toNat_natCast] at i
  exact step n s (by omega) (by omega) i
/-- a loop over any list -/
theorem ok_forL {f : α → S → Res S} {P : S → Prop} (Iv : List α → S → Prop) {xs : List α} {s : S} (h0 : Iv xs s) (step : ∀ x ys s, Iv (x :: ys) s → Ok (f x s) (Iv ys)) (post : ∀ s, Iv [] s → P s) : Ok (forS f xs s) P := by
  induction xs generalizing s with
  | nil => exact ⟨s, forS_nil, post s h0⟩
  | cons x xs ih =>
    obtain ⟨s', e, i⟩ := step x xs s h0
    rw [forS_cons, e, Res.bind_ok]
    exact ih i
/-- a loop over any list: what is done so far -/
theorem ok_forA {f : α → S → Res S} {P : S → Prop} (Iv : List α → S → Prop) {xs : List α} {s : S} (h0 : Iv [] s) (step : ∀ done x rest s, xs = done ++ x :: rest → Iv done s → Ok (f x s) (Iv (done ++ [x]))) (post : ∀ s, Iv xs s → P s) : Ok (forS f xs s) P := by
  have main : ∀ (rest done : List α) (s : S), xs = done ++ rest → Iv done s → Ok (forS f rest s) P := by
    intro rest
    induction rest with
    | nil =>
      intro done s e i
      rw [List.append_nil] at e
      subst e
      exact ⟨s, forS_nil, post s i⟩
    | cons x rest ih =>
      intro done s e i
      obtain ⟨s', e', i'⟩ := step done x rest s e i
      rw [forS_cons, e', Res.bind_ok]
      exact ih (done ++ [x]) s' (by rw [e]; simp) i'
  exact main xs [] s rfl h0
/-- with an early way out -/
def Flw (N : S → Prop) (B : S → Prop) (R : ρ → Prop) : Fl ρ S → Prop
  | .nx s => N s
  | .bk s => B s
  | .rt r => R r
def Lpw (N : S → Prop) (R : ρ → Prop) : Lp ρ S → Prop
  | .fin s => N s
  | .ret r => R r
theorem ok_forR {f : Int → S → Res (Fl ρ S)} {b : Int} {P : Lp ρ S → Prop} (Iv : Int → S → Prop) (B : S → Prop) (R : ρ → Prop) {a : Int} {s : S} (hab : a ≤ b) (h0 : Iv a s) (step : ∀ k s, a ≤ k → k < b → Iv k s → Ok (f k s) (Flw (Iv (k + 1)) B R))
    (post : ∀ s, Iv b s → P (.fin s)) (brk : ∀ s, B s → P (.fin s)) (ret : ∀ r, R r → P (.ret r)) : Ok (forR f (rng a b) s) P := by
  have main : ∀ (n : Nat) (k : Int) (s : S), a ≤ k → k + n = b → Iv k s → Ok (forR f (rng k b) s) P := by
    intro n
    induction n with
    | zero =>
      intro k s _ e i
      rw [rng_nil (by omega)]
      have : k = b := by omega
      subst this
      exact ⟨.fin s, forR_nil, post s i⟩
    | succ n ih =>
      intro k s h1 e i
      obtain ⟨y, e', i'⟩ := step k s h1 (by omega) i
      rw [rng_cons (by omega), forR_cons, e', Res.bind_ok]
      cases y with
      | nx s' => exact ih (k + 1) s' (by omega) (by omega) i'
      | bk s' => exact ⟨_, rfl, brk s' i'⟩
      | rt r => exact ⟨_, rfl, ret r i'⟩
  exact main (b - a).toNat a s (Int.le_refl _) (by omega) h0
theorem ok_forRN {f : Int → S → Res (Fl ρ S)} {P : Lp ρ S → Prop} (Iv : Nat → S → Prop) (B : S → Prop) (R : ρ → Prop) {a b : Nat} {s : S} (hab : a ≤ b) (h0 : Iv a s) (step : ∀ (k : Nat) s, a ≤ k → k < b → Iv k s → Ok (f (k : Int) s) (Flw (Iv (k + 1)) B R))
    (post : ∀ s, Iv b s → P (.fin s)) (brk : ∀ s, B s → P (.fin s)) (ret : ∀ r, R r → P (.ret r)) : Ok (forR f (rng (a : Int) (b : Int)) s) P := by
  refine ok_forR (fun k s => Iv k.toNat s) B R (by omega) (by simpa using h0) (fun k s h1 h2 i => ?_) (fun s i => post s (by simpa using i)) brk ret
  obtain ⟨n, rfl⟩ : ∃ n : Nat, k = (n : Int) := ⟨k.toNat, by omega⟩
  have e : ((n : Int) + 1).toNat = n + 1 := by omega
  rw [e]
  rw [Int.toNat_natCast] at i
  exact step n s (by omega) (by omega) i
theorem ok_forRL {f : α → S → Res (Fl ρ S)} {P : Lp ρ S → Prop} (Iv : List α → S → Prop) (B : S → Prop) (R : ρ → Prop) {xs : List α} {s : S} (h0 : Iv xs s) (step : ∀ x ys s, Iv (x :: ys) s → Ok (f x s) (Flw (Iv ys) B R))
    (post : ∀ s, Iv [] s → P (.fin s)) (brk : ∀ s, B s → P (.fin s)) (ret : ∀ r, R r → P (.ret r)) : Ok (forR f xs s) P := by
  induction xs generalizing s with
  | nil => exact ⟨.fin s, forR_nil, post s h0⟩
  | cons x xs ih =>
    obtain ⟨y, e, i⟩ := step x xs s h0
    rw [forR_cons, e, Res.bind_ok]
    cases y with
    | nx s' => exact ih i
    | bk s' => exact ⟨_, rfl, brk s' i⟩
    | rt r => exact ⟨_, rfl, ret r i⟩
/-- while: an invariant and a measure -/
theorem ok_while {c : S → Res Bool} {f : S → Res (Fl ρ S)} {P : Lp ρ S → Prop} (Iv : S → Prop) (μ : S → Nat) {s : S} (h0 : Iv s) (hm : μ s < 100000) (cond : ∀ s, Iv s → Ok (c s) fun b => (b = true → Ok (f s) (Flw (fun s' => Iv s' ∧ μ s' < μ s) (fun s' => P (.fin s')) (fun r => P (.ret r)))) ∧ (b = false → P (.fin s))) : Ok (whileR c f fuel s) P := by
  rw [fuel_eq]
  have main : ∀ (n : Nat) (s : S), Iv s → μ s < n → Ok (whileR c f n s) P := by
    intro n
    induction n with
    | zero => exact fun s _ h => absurd h (Nat.not_lt_zero _)
    | succ n ih =>
      intro s i hm
      obtain ⟨b, e, h1, h2⟩ := cond s i
      rw [whileR_succ, e, Res.bind_ok]
      cases b with
      | false => exact ⟨_, by rw [if_neg (by decide)], h2 rfl⟩
      | true =>
        obtain ⟨y, e', i'⟩ := h1 rfl
        rw [if_pos rfl, e', Res.bind_ok]
        cases y with
        | nx s' => exact ih s' i'.1 (by have := i'.2; omega)
        | bk s' => exact ⟨_, rfl, i'⟩
        | rt r => exact ⟨_, rfl, i'⟩
  exact main _ s h0 hm
theorem ok_whileP {c : S → Res Bool} {f : S → Res (Fl ρ S)} {P : Lp ρ S → Prop} (Iv Post : S → Prop) (μ : S → Nat) {s : S} (h0 : Iv s) (hm : μ s < 100000) (cond : ∀ s, Iv s → Ok (c s) fun b => (b = true → Ok (f s) (Flw (fun s' => Iv s' ∧ μ s' < μ s) Post (fun _ => False))) ∧ (b = false → Post s))
    (post : ∀ s, Post s → P (.fin s)) : Ok (whileR c f fuel s) P := by
  refine ok_while Iv μ h0 hm fun s i => ?_
  refine ok_mono (cond s i) fun b h => ⟨fun e => ok_mono (h.1 e) fun y hy => ?_, fun e => post s (h.2 e)⟩
  cases y with
  | nx s' => exact hy
  | bk s' => exact post s' hy
  | rt r => exact hy.elim
/-! slices by whole numbers -/
theorem cutI {xs : List α} {i j : Int} (hi : 0 ≤ i) (hj : 0 ≤ j) : cutL xs (some i) (some j) = (xs.drop i.toNat).take (j.toNat - i.toNat) := by
  have e1 : ((i.toNat : Nat) : Int) = i := by omega
  have e2 : ((j.toNat : Nat) : Int) = j := by omega
  have := cut_mid xs i.toNat j.toNat
  rw [e1, e2] at this
  exact this
theorem cutTo {xs : List α} {j : Int} (hj : 0 ≤ j) : cutL xs none (some j) = xs.take j.toNat := by
  have e2 : ((j.toNat : Nat) : Int) = j := by omega
  have := cut_to xs j.toNat
  rw [e2] at this
  exact this
theorem cutFrom {xs : List α} {j : Int} (hj : 0 ≤ j) : cutL xs (some j) none = xs.drop j.toNat := by
  have e2 : ((j.toNat : Nat) : Int) = j := by omega
  have := cut_from xs j.toNat
  rw [e2] at this
  exact this
end
/-! whole and natural numbers -/
theorem tn_c (a : Nat) : ((a : Nat) : Int).toNat = a := Int.toNat_natCast a
theorem tn_add (a b : Nat) : ((a : Int) + (b : Int)).toNat = a + b := by omega
theorem tn_add1 (a : Nat) : ((a : Int) + 1).toNat = a + 1 := by omega
theorem tn_sub (a b : Nat) : ((a : Int) - (b : Int)).toNat = a - b := by omega
theorem tn_sub1 (a : Nat) : ((a : Int) - 1).toNat = a - 1 := by omega
theorem sing {a b : Nat} : ([a] : Tx) = [b] ↔ a = b := by simp
end M
namespace G
open PySem M
def is_BadWord (e : Exn) : Res Bool := if e.cls = "BadWord" then .ok true else if e.cls = "TooMany" then .ok false else .bad
def is_TooMany (e : Exn) : Res Bool := if e.cls = "BadWord" then .ok false else if e.cls = "TooMany" then .ok true else .bad
def is_ValueError (e : Exn) : Res Bool := if e.cls = "BadWord" then .ok true else if e.cls = "TooMany" then .ok true else .bad
def is_WordError (e : Exn) : Res Bool := if e.cls = "BadWord" then .ok true else if e.cls = "TooMany" then .ok true else .bad
noncomputable def m_law_mixed (cell : Int) (k_ : Int) : Res Int :=
  Res.bind (Res.bind (Res.bind (Res.bind (Res.bind (mulI cell (48271 : Int)) fun (t1 : Int) => Res.bind (mulI k_ (69621 : Int)) fun (t2 : Int) => (.ok (t1 + t2))) fun (t3 : Int) => (.ok (t3 + (7 : Int)))) fun (t4 : Int) => .ok t4) fun (t5 : Int) => (modI t5 (2147483647 : Int))) fun (number : Int) => Res.bind (.ok (0 : Int)) fun (wide : Int) => Res.bind (rngR 0 (32 : Int)) fun xs6 => Res.bind (forS (fun (turn : Int) (s : Int × Int) => match s with | (number, wide) => Res.bind (Res.bind (Res.bind (Res.bind (Res.bind (mulI number (16807 : Int)) fun (t7 : Int) => Res.bind (mulI turn (40692 : Int)) fun (t8 : Int) => (.ok (t7 + t8))) fun (t9 : Int) => (.ok (t9 + (11 : Int)))) fun (t10 : Int) => .ok t10) fun (t11 : Int) => (modI t11 (2147483399 : Int))) fun (number : Int) => Res.bind (Res.bind (mulI wide (2147483399 : Int)) fun (t12 : Int) => (.ok (t12 + number))) fun (wide : Int) => .ok (number, wide)) xs6 (number, wide)) fun (s : Int × Int) => match s with | (number, wide) => .ok wide

noncomputable def m_law_pool (script : (List Int)) : Res (List Int) :=
  Res.bind (.ok ([] : List Int)) fun (pool : (List Int)) => Res.bind (rngR 0 (12 : Int)) fun xs1 => Res.bind (forS (fun (k_ : Int) (s : (List Int)) => match s with | pool => Res.bind (.ok (0 : Int)) fun (cell : Int) => Res.bind (if (decide (k_ < ((script.length : Nat) : Int))) = true then Res.bind (lGet script k_) fun (cell : Int) => .ok cell else Res.bind (if (decide (((script.length : Nat) : Int) > (0 : Int))) = true then Res.bind (Res.bind (Res.bind (Res.bind (modI k_ ((script.length : Nat) : Int)) fun (t2 : Int) => lGet script t2) fun (t3 : Int) => .ok t3) fun (t4 : Int) => (modI t4 (100000000000000000 : Int))) fun (cell : Int) => .ok cell else .ok cell) fun (s : Int) => match s with | cell => .ok cell) fun (s : Int) => match s with | cell => Res.bind (if (decide ((if cell < 0 then -cell else cell) < (1000000000000000000 : Int))) = true then Res.bind (m_law_mixed cell k_) fun (t5 : Int) => .ok t5 else .ok cell) fun (s : Int) => match s with | cell => Res.bind (modI cell (1000000000000000000000000000000000000000000000000000000000000000000000000000000000000000000000000000000000000000000000000000000000000000000000000000000000000000000000000000000000000000000000000000000000000000000000000000000000000000000000000000000000000000000000000000000000000000000000000000000000000000000000000000000000000000000000000000000000000000000000000 : Int)) fun (t7 : Int) => Res.bind (lApp pool t7) fun (pool : (List Int)) => .ok pool) xs1 pool) fun (s : (List Int)) => match s with | pool => .ok pool

noncomputable def m_law_draw (pool : (List Int)) (k_ : Int) (many : Int) : Res (Int × (List Int)) :=
  Res.bind (Res.bind (Res.bind (lGet pool k_) fun (t1 : Int) => .ok t1) fun (t2 : Int) => (modI t2 many)) fun (digit : Int) => Res.bind (Res.bind (lGet pool k_) fun (t3 : Int) => (divI t3 many)) fun (t4 : Int) => Res.bind (lSet pool k_ t4) fun (pool : (List Int)) => .ok (digit, pool)

noncomputable def m_law_word (pool : (List Int)) (k_ : Int) (kinds : Tx) (size : Int) : Res (Tx × (List Int)) :=
  Res.bind (rngR 0 size) fun xs1 => Res.bind (lcS (fun (place : Int) (s2 : (List Int)) => Res.bind (noX (m_law_draw s2 k_ ((kinds.length : Nat) : Int))) fun (t4 : Int × (List Int)) => Res.bind (xGet kinds t4.1) fun (t5 : Tx) => .ok (t5, t4.2)) xs1 pool) fun (ys6 : List Tx × (List Int)) => Res.bind (lJoin ([] : Tx) ys6.1) fun (t7 : Tx) => .ok (t7, ys6.2)

noncomputable def m_law_first (pool : (List Int)) (kinds : Tx) : Res ((List Tx) × (List Int)) :=
  Res.bind (m_law_draw pool (1 : Int) (7 : Int)) fun (t3 : Int × (List Int)) => Res.bind (m_law_word t3.2 (2 : Int) kinds t3.1) fun (t4 : Tx × (List Int)) => Res.bind (divI (12 : Int) (max (1 : Int) ((t4.1.length : Nat) : Int))) fun (t6 : Int) => Res.bind (m_law_draw t4.2 (1 : Int) t6) fun (t7 : Int × (List Int)) => Res.bind (.ok ((1 : Int) + t7.1)) fun (t8 : Int) => Res.bind (xRep t4.1 t8) fun (t9 : Tx) => Res.bind (m_law_draw t7.2 (1 : Int) (8 : Int)) fun (t11 : Int × (List Int)) => Res.bind (if (decide (t11.1 = (1 : Int))) = true then Res.bind (m_law_draw t11.2 (1 : Int) (30 : Int)) fun (t14 : Int × (List Int)) => Res.bind (.ok ((1 : Int) + t14.1)) fun (t15 : Int) => Res.bind (m_law_word t14.2 (2 : Int) kinds t15) fun (t16 : Tx × (List Int)) => Res.bind (xRep t16.1 (60 : Int)) fun (t17 : Tx) => Res.bind (m_law_draw t16.2 (1 : Int) (2 : Int)) fun (t19 : Int × (List Int)) => Res.bind (m_law_draw t19.2 (1 : Int) (48 : Int)) fun (t21 : Int × (List Int)) => Res.bind (mulI t19.1 t21.1) fun (t22 : Int) => Res.bind (.ok ((60 : Int) - t22)) fun (t23 : Int) => Res.bind (.ok (cutL t17 none (some t23))) fun (word : Tx) => .ok (t21.2, t16.1, word) else .ok (t11.2, t4.1, t9)) fun (s : (List Int) × Tx × Tx) => match s with | (pool, base_, word) => Res.bind (if (!decide (word = ([] : Tx))) = true then Res.bind (m_law_draw pool (1 : Int) (3 : Int)) fun (t25 : Int × (List Int)) => .ok ((decide (t25.1 = (1 : Int))), t25.2) else .ok (false, pool)) fun (s : Bool × (List Int)) => match s with | (b26, pool_) => Res.bind (if b26 = true then Res.bind (m_law_draw pool_ (3 : Int) ((word.length : Nat) : Int)) fun (t28 : Int × (List Int)) => Res.bind (m_law_draw t28.2 (3 : Int) ((kinds.length : Nat) : Int)) fun (t30 : Int × (List Int)) => Res.bind (xGet kinds t30.1) fun (t31 : Tx) => Res.bind (Res.bind (xCat (cutL word none (some t28.1)) t31) fun (t32 : Tx) => (xCat t32 (cutL word (some (t28.1 + (1 : Int))) none))) fun (word : Tx) => .ok (t30.2, word) else .ok (pool_, word)) fun (s : (List Int) × Tx) => match s with | (pool, word) => .ok ([base_, word], pool)

noncomputable def m_law_second (pool : (List Int)) (kinds : Tx) (base_ : Tx) (word : Tx) : Res (Tx × (List Int)) :=
  Res.bind (m_law_draw pool (4 : Int) (4 : Int)) fun (t2 : Int × (List Int)) => (if (decide (t2.1 = (0 : Int))) = true then Res.bind (Res.bind (divI (60 : Int) (max (1 : Int) ((base_.length : Nat) : Int))) fun (t4 : Int) => (.ok ((1 : Int) + t4))) fun (t5 : Int) => Res.bind (m_law_draw t2.2 (4 : Int) t5) fun (t6 : Int × (List Int)) => Res.bind (xRep base_ t6.1) fun (t7 : Tx) => .ok (t7, t6.2) else (if (decide (t2.1 = (1 : Int))) = true then Res.bind (m_law_draw t2.2 (4 : Int) (9 : Int)) fun (t10 : Int × (List Int)) => Res.bind (m_law_word t10.2 (4 : Int) kinds t10.1) fun (t11 : Tx × (List Int)) => .ok (t11.1, t11.2) else (if (decide (t2.1 = (2 : Int))) = true then .ok (([] : Tx), t2.2) else .ok (word, t2.2))))

noncomputable def m_law_list (pool : (List Int)) (kinds : Tx) (base_ : Tx) : Res ((List Tx) × (List Int)) :=
  Res.bind (m_law_draw pool (5 : Int) (7 : Int)) fun (t2 : Int × (List Int)) => Res.bind (m_law_draw t2.2 (5 : Int) (8 : Int)) fun (t4 : Int × (List Int)) => Res.bind (if (decide (t4.1 = (1 : Int))) = true then Res.bind (.ok (20 : Int)) fun (count : Int) => .ok count else .ok t2.1) fun (s : Int) => match s with | count => Res.bind (Res.bind (.ok (4 : Int)) fun (t6 : Int) => Res.bind (Res.bind (divI (60 : Int) (max (1 : Int) ((base_.length : Nat) : Int))) fun (t5 : Int) => (.ok ((1 : Int) + t5))) fun (t7 : Int) => .ok (min t6 t7)) fun (many : Int) => Res.bind (rngR 0 count) fun xs8 => Res.bind (lcS (fun (k_ : Int) (s9 : (List Int)) => Res.bind (noX (m_law_draw s9 (6 : Int) many)) fun (t11 : Int × (List Int)) => Res.bind (xRep base_ t11.1) fun (t12 : Tx) => .ok (t12, t11.2)) xs8 t4.2) fun (ys13 : List Tx × (List Int)) => Res.bind (if (decide (count > (0 : Int))) = true then Res.bind (m_law_draw ys13.2 (5 : Int) (2 : Int)) fun (t15 : Int × (List Int)) => .ok ((decide (t15.1 = (1 : Int))), t15.2) else .ok (false, ys13.2)) fun (s : Bool × (List Int)) => match s with | (b16, pool_) => Res.bind (if b16 = true then Res.bind (m_law_draw pool_ (5 : Int) count) fun (t18 : Int × (List Int)) => Res.bind (m_law_draw t18.2 (5 : Int) (7 : Int)) fun (t21 : Int × (List Int)) => Res.bind (m_law_word t21.2 (7 : Int) kinds t21.1) fun (t22 : Tx × (List Int)) => Res.bind (lSet ys13.1 t18.1 t22.1) fun (words : (List Tx)) => .ok (t22.2, words) else .ok (pool_, ys13.1)) fun (s : (List Int) × (List Tx)) => match s with | (pool, words) => .ok (words, pool)

noncomputable def m_law_odd (pool : (List Int)) (word : Tx) : Res (Tx × (List Int)) :=
  Res.bind (.ok ([32, 33, 34, 35, 36, 38, 39, 40, 41, 42, 43, 44, 45, 46, 47, 48, 49, 50, 51, 52, 53, 54, 55, 56, 57, 58, 59, 60, 61, 62, 63, 64, 65, 66, 67, 68, 69, 70, 71, 72, 73, 74, 75, 76, 77, 78, 79, 80, 81, 82, 83, 84, 85, 86, 87, 88, 89, 90, 91, 92, 93, 94, 95, 96, 123, 124, 125, 126, 10] : Tx)) fun (signs : Tx) => Res.bind (m_law_draw pool (8 : Int) (((word.length : Nat) : Int) + (1 : Int))) fun (t2 : Int × (List Int)) => Res.bind (m_law_draw t2.2 (8 : Int) ((signs.length : Nat) : Int)) fun (t4 : Int × (List Int)) => Res.bind (xGet signs t4.1) fun (t5 : Tx) => Res.bind (Res.bind (xCat (cutL word none (some t2.1)) t5) fun (t6 : Tx) => (xCat t6 (cutL word (some t2.1) none))) fun (t7 : Tx) => .ok (t7, t4.2)

noncomputable def m_is_letters (text : Tx) (most : Int) : Res Bool :=
  (if (decide (((text.length : Nat) : Int) > most)) = true then .ok false else Res.bind (forR (fun (letter : Tx) (s : Unit) => (if ((xLt letter ([97] : Tx)) || (xGt letter ([122] : Tx))) = true then .ok (.rt false) else .ok (.nx ()))) (chars text) ()) fun (y : Lp Bool Unit) => match y with | .ret r => .ok r | .fin s => .ok true)

noncomputable def m_is_word (text : Tx) : Res Bool :=
  Res.bind (m_is_letters text (60 : Int)) fun (t1 : Bool) => .ok t1

noncomputable def m_check_word (word : Tx) : Res Unit :=
  Res.bind (m_is_word word) fun (t1 : Bool) => (if (!t1) = true then .exc ⟨"BadWord", [("word", enc word)]⟩ else .ok ())

noncomputable def m_check_many (things : (SeqL Tx)) (most : Int) : Res Unit :=
  (if (decide (((things.l.length : Nat) : Int) > most)) = true then .exc ⟨"TooMany", [("most", enc most)]⟩ else .ok ())

noncomputable def m_root (word : Tx) : Res Tx :=
  Res.bind (m_check_word word) fun (t1 : Unit) => Res.bind (.ok ((word.length : Nat) : Int)) fun (size : Int) => Res.bind (rngR (1 : Int) (size + (1 : Int))) fun xs2 => Res.bind (forR (fun (count : Int) (s : Unit) => Res.bind (Res.bind (Res.bind (modI size count) fun (t3 : Int) => (.ok (decide (t3 = (0 : Int))))) fun b6 => if b6 = true then (Res.bind (Res.bind (divI size count) fun (t4 : Int) => (xRep (cutL word none (some count)) t4)) fun (t5 : Tx) => (.ok (decide (t5 = word)))) else .ok false) fun b7 => (if b7 = true then .ok (.rt (cutL word none (some count))) else .ok (.nx ()))) xs2 ()) fun (y : Lp Tx Unit) => match y with | .ret r => .ok r | .fin s => .ok ([] : Tx)

noncomputable def m_exponent (word : Tx) : Res Int :=
  Res.bind (m_root word) fun (t1 : Tx) => (if (!(!List.isEmpty t1)) = true then .ok (0 : Int) else Res.bind (divI ((word.length : Nat) : Int) ((t1.length : Nat) : Int)) fun (t2 : Int) => .ok t2)

noncomputable def m_is_primitive (word : Tx) : Res Bool :=
  Res.bind (m_exponent word) fun (t1 : Int) => .ok (decide (t1 = (1 : Int)))

noncomputable def m_commute (first : Tx) (second : Tx) : Res Bool :=
  Res.bind (m_check_word first) fun (t1 : Unit) => Res.bind (m_check_word second) fun (t2 : Unit) => Res.bind (Res.bind (xCat first second) fun (t3 : Tx) => Res.bind (xCat second first) fun (t4 : Tx) => (.ok (decide (t3 = t4)))) fun (t5 : Bool) => .ok t5

noncomputable def m_common_root (words : (SeqL Tx)) : Res PyData :=
  Res.bind (m_check_many words (20 : Int)) fun (t1 : Unit) => Res.bind (forS (fun (word : Tx) (s : Unit) => Res.bind (m_check_word word) fun (t3 : Unit) => .ok ()) words.l ()) fun (s : Unit) => Res.bind (.ok ([] : Tx)) fun (shared : Tx) => Res.bind (forR (fun (word : Tx) (s : Tx) => match s with | shared => (if ((!List.isEmpty word) && (!(!List.isEmpty shared))) = true then Res.bind (m_root word) fun (t6 : Tx) => .ok (.nx t6) else Res.bind (if (!List.isEmpty word) = true then Res.bind (m_root word) fun (t7 : Tx) => .ok ((!decide (t7 = shared)), ()) else .ok (false, ())) fun (s : Bool × Unit) => match s with | (b8, _) => (if b8 = true then .ok (.rt PyData.none) else .ok (.nx shared)))) words.l shared) fun (y : Lp PyData Tx) => match y with | .ret r => .ok r | .fin s => match s with | shared => .ok (Dat.toD (α := Tx) shared)

noncomputable def m_law_written (word : Tx) (count : Int) : Res Bool :=
  Res.bind (rngR 0 ((word.length : Nat) : Int)) fun xs1 => Res.bind (forR (fun (place : Int) (s : Unit) => Res.bind (Res.bind (xGet word place) fun (t3 : Tx) => Res.bind (Res.bind (modI place count) fun (t2 : Int) => (xGet word t2)) fun (t4 : Tx) => (.ok (!decide (t3 = t4)))) fun b5 => (if b5 = true then .ok (.rt false) else .ok (.nx ()))) xs1 ()) fun (y : Lp Bool Unit) => match y with | .ret r => .ok r | .fin s => .ok true

noncomputable def m_law_root (word : Tx) : Res Tx :=
  Res.bind (rngR (1 : Int) (((word.length : Nat) : Int) + (1 : Int))) fun xs1 => Res.bind (forR (fun (count : Int) (s : Unit) => Res.bind (Res.bind (Res.bind (modI ((word.length : Nat) : Int) count) fun (t2 : Int) => (.ok (decide (t2 = (0 : Int))))) fun (b3 : Bool) => (if b3 = true then Res.bind (m_law_written word count) fun (t4 : Bool) => .ok (t4, ()) else .ok (false, ()))) fun (s : Bool × Unit) => match s with | (b5, _) => (if b5 = true then .ok (.rt (cutL word none (some count))) else .ok (.nx ()))) xs1 ()) fun (y : Lp Tx Unit) => match y with | .ret r => .ok r | .fin s => .ok ([] : Tx)

noncomputable def m_law_shared (words : (List Tx)) : Res PyData :=
  Res.bind (lcR (fun (word : Tx) => .ok (!decide (word = ([] : Tx)))) (fun (word : Tx) => Res.bind (noX (m_law_root word)) fun (t1 : Tx) => .ok t1) words) fun (ys2 : List Tx) => Res.bind (eqD ys2 ([] : List Tx)) fun (t3 : Bool) => (if t3 = true then .ok (Dat.toD (α := Tx) ([] : Tx)) else Res.bind (lcR (fun (own : Tx) => Res.bind (Res.bind (lGet ys2 (0 : Int)) fun (t4 : Tx) => (.ok (!decide (own = t4)))) fun (b5 : Bool) => .ok b5) (fun (own : Tx) => .ok own) ys2) fun (ys6 : List Tx) => Res.bind (neD ys6 ([] : List Tx)) fun (t7 : Bool) => (if t7 = true then .ok PyData.none else Res.bind (lGet ys2 (0 : Int)) fun (t8 : Tx) => .ok (Dat.toD (α := Tx) t8)))

noncomputable def m_law_word_right (word : Tx) : Res Bool :=
  Res.bind (m_law_root word) fun (t1 : Tx) => Res.bind (.ok (0 : Int)) fun (times : Int) => Res.bind (if (!decide (t1 = ([] : Tx))) = true then Res.bind (divI ((word.length : Nat) : Int) ((t1.length : Nat) : Int)) fun (times : Int) => .ok times else .ok times) fun (s : Int) => match s with | times => Res.bind (m_root word) fun (t2 : Tx) => Res.bind (if (!true) = true then .ok (true, ()) else (if (!decide (t2 = t1)) = true then .ok (true, ()) else Res.bind (m_root word) fun (t3 : Tx) => .ok ((!decide (t3 = t1)), ()))) fun (s : Bool × Unit) => match s with | (b4, _) => (if b4 = true then .ok false else Res.bind (m_exponent word) fun (t5 : Int) => (if ((!true) || (false || (!decide (t5 = times)))) = true then .ok false else Res.bind (m_is_primitive word) fun (t6 : Bool) => .ok (true && (decide (t6 = (decide (times = (1 : Int))))))))

noncomputable def m_law_pair_right (first : Tx) (second : Tx) : Res Bool :=
  Res.bind (m_commute first second) fun (t1 : Bool) => Res.bind (Res.bind (xCat first second) fun (t2 : Tx) => Res.bind (xCat second first) fun (t3 : Tx) => (.ok (decide (t2 = t3)))) fun (due : Bool) => (if ((!true) || (!decide (t1 = due))) = true then .ok false else Res.bind (m_commute first second) fun (t4 : Bool) => (if (!decide (t4 = due)) = true then .ok false else Res.bind (.ok ((decide (first = ([] : Tx))) || (decide (second = ([] : Tx))))) fun (due : Bool) => Res.bind (if due = true then .ok true else Res.bind (m_law_root first) fun (t5 : Tx) => Res.bind (m_law_root second) fun (t6 : Tx) => .ok (decide (t5 = t6))) fun (t7 : Bool) => .ok (decide (t1 = t7))))

noncomputable def m_law_list_right (words : (List Tx)) : Res Bool :=
  Res.bind (m_law_shared words) fun (t1 : PyData) => Res.bind (forR (fun (handed : (SeqL Tx)) (s : Unit) => Res.bind (m_common_root handed) fun (t2 : PyData) => Res.bind (Res.bind (neD handed.l words) fun (t3 : Bool) => (if t3 = true then .ok (true, ()) else Res.bind (m_common_root handed) fun (t4 : PyData) => Res.bind (neV t4 t2) fun (t5 : Bool) => .ok (t5, ()))) fun (s : Bool × Unit) => match s with | (b6, _) => (if b6 = true then .ok (.rt false) else (if ((isNonD t1) && (!isNonD t2)) = true then .ok (.rt false) else Res.bind (if (!isNonD t1) = true then Res.bind (if (!(isD "str" t2)) = true then .ok (true, ()) else Res.bind (neV t2 t1) fun (t7 : Bool) => .ok (t7, ())) fun (s : Bool × Unit) => match s with | (b8, _) => .ok (b8, ()) else .ok (false, ())) fun (s : Bool × Unit) => match s with | (b9, _) => (if b9 = true then .ok (.rt false) else .ok (.nx ()))))) [(SeqL.mk words), (SeqL.mk (TupL.mk words).l), (SeqL.mk words)] ()) fun (y : Lp Bool Unit) => match y with | .ret r => .ok r | .fin s => .ok true

noncomputable def m_law_told (task : Int) (given : (List Tx)) : Res PyData :=
  Res.bind (Res.catch (if (decide (task = (0 : Int))) = true then Res.bind (lGet given (0 : Int)) fun (t2 : Tx) => Res.bind (m_root t2) fun (t3 : Tx) => .ok (.ret (PyData.tuple [(Dat.toD (α := Tx) ([116, 111, 108, 100] : Tx)), (Dat.toD (α := Tx) t3)])) else (if (decide (task = (1 : Int))) = true then Res.bind (lGet given (0 : Int)) fun (t4 : Tx) => Res.bind (m_exponent t4) fun (t5 : Int) => .ok (.ret (PyData.tuple [(Dat.toD (α := Tx) ([116, 111, 108, 100] : Tx)), (Dat.toD (α := Int) t5)])) else (if (decide (task = (2 : Int))) = true then Res.bind (lGet given (0 : Int)) fun (t6 : Tx) => Res.bind (m_is_primitive t6) fun (t7 : Bool) => .ok (.ret (PyData.tuple [(Dat.toD (α := Tx) ([116, 111, 108, 100] : Tx)), (Dat.toD (α := Bool) t7)])) else (if (decide (task = (3 : Int))) = true then Res.bind (lGet given (0 : Int)) fun (t8 : Tx) => Res.bind (lGet given (1 : Int)) fun (t9 : Tx) => Res.bind (m_commute t8 t9) fun (t10 : Bool) => .ok (.ret (PyData.tuple [(Dat.toD (α := Tx) ([116, 111, 108, 100] : Tx)), (Dat.toD (α := Bool) t10)])) else Res.bind (m_common_root (SeqL.mk given)) fun (t11 : PyData) => .ok (.ret (PyData.tuple [(Dat.toD (α := Tx) ([116, 111, 108, 100] : Tx)), t11])))))) (fun (xe1 : Exn) => Res.bind (is_BadWord xe1) fun (b1_0 : Bool) => (if b1_0 = true then Res.bind (Res.bind (is_WordError xe1) fun b12 => if b12 = true then (is_ValueError xe1) else .ok false) fun (fair : Bool) => Res.bind (fldT "BadWord" "word" xe1) fun (t13 : Tx) => Res.bind (if fair = true then (Res.bind (is_TooMany xe1) fun b => .ok (!b)) else .ok false) fun (t14 : Bool) => .ok (.ret (PyData.tuple [(Dat.toD (α := Tx) ([66, 97, 100, 87, 111, 114, 100] : Tx)), (Dat.toD (α := Tx) t13), (Dat.toD (α := Bool) t14)])) else Res.bind (is_TooMany xe1) fun (b1_1 : Bool) => (if b1_1 = true then Res.bind (Res.bind (is_WordError xe1) fun b15 => if b15 = true then (is_ValueError xe1) else .ok false) fun (fair : Bool) => Res.bind (fldI "TooMany" "most" xe1) fun (t16 : Int) => Res.bind (if fair = true then (Res.bind (is_BadWord xe1) fun b => .ok (!b)) else .ok false) fun (t17 : Bool) => .ok (.ret (PyData.tuple [(Dat.toD (α := Tx) ([84, 111, 111, 77, 97, 110, 121] : Tx)), (Dat.toD (α := Int) t16), (Dat.toD (α := Bool) t17)])) else .bad)))) fun (y : Lp PyData Unit) => match y with | .ret r => .ok r | .fin s => .bad

noncomputable def m_law_refuses (words : (List Tx)) (at_ : Int) (word : Tx) (bad : Tx) : Res Bool :=
  Res.bind (.ok (PyData.tuple [(Dat.toD (α := Tx) ([66, 97, 100, 87, 111, 114, 100] : Tx)), (Dat.toD (α := Tx) bad), (Dat.toD (α := Bool) true)])) fun (due : PyData) => Res.bind (rngR 0 (3 : Int)) fun xs1 => Res.bind (forR (fun (task : Int) (s : Unit) => Res.bind (m_law_told task [bad]) fun (t2 : PyData) => Res.bind (neV t2 due) fun (t3 : Bool) => (if t3 = true then .ok (.rt false) else .ok (.nx ()))) xs1 ()) fun (y : Lp Bool Unit) => match y with | .ret r => .ok r | .fin s => Res.bind (forR (fun (given : (List Tx)) (s : Unit) => Res.bind (m_law_told (3 : Int) given) fun (t5 : PyData) => Res.bind (neV t5 due) fun (t6 : Bool) => (if t6 = true then .ok (.rt false) else .ok (.nx ()))) [[bad, word], [word, bad], [bad, bad]] ()) fun (y : Lp Bool Unit) => match y with | .ret r => .ok r | .fin s => Res.bind (lCat (cutL words none (some at_)) [bad]) fun (t8 : (List Tx)) => Res.bind (lCat t8 (cutL words (some (at_ + (1 : Int))) none)) fun (t9 : (List Tx)) => Res.bind (lRep [word] (19 : Int)) fun (t10 : (List Tx)) => Res.bind (lCat t10 [bad]) fun (t11 : (List Tx)) => Res.bind (forR (fun (given : (List Tx)) (s : Unit) => Res.bind (m_law_told (4 : Int) given) fun (t12 : PyData) => Res.bind (neV t12 due) fun (t13 : Bool) => (if t13 = true then .ok (.rt false) else .ok (.nx ()))) [t9, t11, [bad]] ()) fun (y : Lp Bool Unit) => match y with | .ret r => .ok r | .fin s => Res.bind (lRep [word] (20 : Int)) fun (t15 : (List Tx)) => Res.bind (lCat [bad] t15) fun (t16 : (List Tx)) => Res.bind (m_law_told (4 : Int) t16) fun (t17 : PyData) => Res.bind (eqV t17 (PyData.tuple [(Dat.toD (α := Tx) ([84, 111, 111, 77, 97, 110, 121] : Tx)), (Dat.toD (α := Int) (20 : Int)), (Dat.toD (α := Bool) true)])) fun (t18 : Bool) => .ok t18

noncomputable def m_law_refuses_first (word : Tx) (odd : Tx) (much : Tx) : Res Bool :=
  Res.bind (forR (fun (pair : (List Tx)) (s : Unit) => Res.bind (lGet pair (0 : Int)) fun (t1 : Tx) => Res.bind (.ok (PyData.tuple [(Dat.toD (α := Tx) ([66, 97, 100, 87, 111, 114, 100] : Tx)), (Dat.toD (α := Tx) t1), (Dat.toD (α := Bool) true)])) fun (due : PyData) => Res.bind (Res.bind (m_law_told (3 : Int) pair) fun (t2 : PyData) => Res.bind (neV t2 due) fun (t3 : Bool) => (if t3 = true then .ok (true, ()) else Res.bind (m_law_told (4 : Int) pair) fun (t4 : PyData) => Res.bind (neV t4 due) fun (t5 : Bool) => .ok (t5, ()))) fun (s : Bool × Unit) => match s with | (b6, _) => (if b6 = true then .ok (.rt false) else Res.bind (lGet pair (0 : Int)) fun (t7 : Tx) => Res.bind (lGet pair (1 : Int)) fun (t8 : Tx) => Res.bind (m_law_told (4 : Int) [word, t7, ([] : Tx), t8]) fun (t9 : PyData) => Res.bind (neV t9 due) fun (t10 : Bool) => (if t10 = true then .ok (.rt false) else .ok (.nx ())))) [[odd, much], [much, odd]] ()) fun (y : Lp Bool Unit) => match y with | .ret r => .ok r | .fin s => Res.bind (lRep [word] (21 : Int)) fun (t12 : (List Tx)) => Res.bind (m_law_told (4 : Int) t12) fun (t13 : PyData) => Res.bind (eqV t13 (PyData.tuple [(Dat.toD (α := Tx) ([84, 111, 111, 77, 97, 110, 121] : Tx)), (Dat.toD (α := Int) (20 : Int)), (Dat.toD (α := Bool) true)])) fun (t14 : Bool) => .ok t14

noncomputable def m_law (script : Scr) : Res Bool :=
  Res.bind (m_law_pool (cutL script.l none (some (63 : Int)))) fun (t1 : (List Int)) => Res.bind (.ok ([97, 98, 99, 100, 101, 102, 103, 104, 105, 106, 107, 108, 109, 110, 111, 112, 113, 114, 115, 116, 117, 118, 119, 120, 121, 122] : Tx)) fun (letters : Tx) => Res.bind (m_law_draw t1 (0 : Int) (3 : Int)) fun (t4 : Int × (List Int)) => Res.bind (.ok ((1 : Int) + t4.1)) fun (t5 : Int) => Res.bind (rngR 0 t5) fun xs2 => Res.bind (lcS (fun (k_ : Int) (s6 : (List Int)) => Res.bind (noX (m_law_draw s6 (0 : Int) (26 : Int))) fun (t8 : Int × (List Int)) => .ok (t8.1, t8.2)) xs2 t4.2) fun (ys9 : List Int × (List Int)) => Res.bind (lcM (fun (sort : Int) => Res.bind (xGet letters sort) fun (t10 : Tx) => .ok t10) ys9.1) fun (ys11 : List Tx) => Res.bind (lJoin ([] : Tx) ys11) fun (t12 : Tx) => Res.bind (m_law_first ys9.2 t12) fun (t14 : (List Tx) × (List Int)) => Res.bind (lGet t14.1 (0 : Int)) fun (base_ : Tx) => Res.bind (lGet t14.1 (1 : Int)) fun (word : Tx) => Res.bind (m_law_second t14.2 t12 base_ word) fun (t16 : Tx × (List Int)) => Res.bind (m_law_list t16.2 t12 base_) fun (t18 : (List Tx) × (List Int)) => Res.bind (Res.bind (Res.bind (Res.bind (xGet t12 (0 : Int)) fun (t19 : Tx) => (xCat base_ t19)) fun (t20 : Tx) => (xRep t20 (60 : Int))) fun (t21 : Tx) => Res.bind (.ok none) fun t22 => Res.bind (.ok (some (60 : Int))) fun t23 => .ok (cutL t21 t22 t23)) fun (full : Tx) => Res.bind (xGet t12 (0 : Int)) fun (t24 : Tx) => Res.bind (Res.bind (Res.bind (Res.bind (Res.bind (lGet ys9.1 (0 : Int)) fun (t25 : Int) => (.ok (t25 + (1 : Int)))) fun (t26 : Int) => .ok t26) fun (t27 : Int) => (modI t27 (26 : Int))) fun (t28 : Int) => (xGet letters t28)) fun (t29 : Tx) => Res.bind (.ok [t24, t29]) fun (unlike : (List Tx)) => Res.bind (lCat [word, t16.1, full, ([] : Tx)] unlike) fun (t30 : (List Tx)) => Res.bind (Res.bind (xGet t12 (0 : Int)) fun (t31 : Tx) => (xRep t31 (2 : Int))) fun (t32 : Tx) => Res.bind (lCat t30 [t32, word]) fun (t33 : (List Tx)) => Res.bind (forR (fun (one : Tx) (s : Unit) => Res.bind (m_law_word_right one) fun (t34 : Bool) => (if (!t34) = true then .ok (.rt false) else .ok (.nx ()))) t33 ()) fun (y : Lp Bool Unit) => match y with | .ret r => .ok r | .fin s => Res.bind (forR (fun (other : Tx) (s : Unit) => Res.bind (Res.bind (m_law_pair_right word other) fun (t36 : Bool) => (if (!t36) = true then .ok (true, ()) else Res.bind (m_law_pair_right other word) fun (t37 : Bool) => .ok ((!t37), ()))) fun (s : Bool × Unit) => match s with | (b38, _) => (if b38 = true then .ok (.rt false) else .ok (.nx ()))) t33 ()) fun (y : Lp Bool Unit) => match y with | .ret r => .ok r | .fin s => Res.bind (forR (fun (row : (List Tx)) (s : Unit) => Res.bind (m_law_list_right row) fun (t40 : Bool) => (if (!t40) = true then .ok (.rt false) else .ok (.nx ()))) [t18.1, ([] : List Tx), unlike, [([] : Tx), word, ([] : Tx)], t18.1] ()) fun (y : Lp Bool Unit) => match y with | .ret r => .ok r | .fin s => Res.bind (Res.bind (lRep [word] (20 : Int)) fun (t42 : (List Tx)) => Res.bind (m_law_list_right t42) fun (t43 : Bool) => (if (!t43) = true then .ok (true, ()) else Res.bind (lRep [([] : Tx)] (19 : Int)) fun (t44 : (List Tx)) => Res.bind (lCat t44 [full]) fun (t45 : (List Tx)) => Res.bind (m_law_list_right t45) fun (t46 : Bool) => .ok ((!t46), ()))) fun (s : Bool × Unit) => match s with | (b47, _) => (if b47 = true then .ok false else Res.bind (lGet unlike (0 : Int)) fun (t48 : Tx) => Res.bind (lGet unlike (1 : Int)) fun (t49 : Tx) => Res.bind (m_law_pair_right t48 t49) fun (t50 : Bool) => (if (!t50) = true then .ok false else Res.bind (m_law_odd t18.2 word) fun (t52 : Tx × (List Int)) => Res.bind (Res.bind (xGet t12 (0 : Int)) fun (t53 : Tx) => (xCat full t53)) fun (much : Tx) => Res.bind (m_law_draw t52.2 (9 : Int) (max (1 : Int) ((t18.1.length : Nat) : Int))) fun (t55 : Int × (List Int)) => Res.bind (forR (fun (bad : Tx) (s : Unit) => Res.bind (m_law_refuses t18.1 t55.1 word bad) fun (t56 : Bool) => (if (!t56) = true then .ok (.rt false) else .ok (.nx ()))) [t52.1, much] ()) fun (y : Lp Bool Unit) => match y with | .ret r => .ok r | .fin s => Res.bind (m_law_refuses_first word t52.1 much) fun (t58 : Bool) => .ok t58))
end G
/-! words of small letters; caught errors (families other than k46 to k57). Printed from MB and MW. -/
namespace G
open PySem L2 M
def WOk (w : Tx) : Prop := ∀ c ∈ w, 97 ≤ c ∧ c ≤ 122
theorem wok_app {a b : Tx} (ha : WOk a) (hb : WOk b) : WOk (a ++ b) := fun c hc => (List.mem_append.mp hc).elim (ha c) (hb c)
theorem wok_sub {a b : Tx} (ha : WOk a) (h : ∀ c ∈ b, c ∈ a) : WOk b := fun c hc => ha c (h c hc)
theorem wok_take {a : Tx} (ha : WOk a) (n : Nat) : WOk (a.take n) := wok_sub ha fun _ h => List.mem_of_mem_take h
theorem wok_drop {a : Tx} (ha : WOk a) (n : Nat) : WOk (a.drop n) := wok_sub ha fun _ h => List.mem_of_mem_drop h
def abc : Tx := [97, 98, 99, 100, 101, 102, 103, 104, 105, 106, 107, 108, 109, 110, 111, 112, 113, 114, 115, 116, 117, 118, 119, 120, 121, 122]
theorem abc_get {i : Int} (h0 : 0 ≤ i) (h1 : i < 26) : ∃ c, xGet abc i = .ok [c] ∧ 97 ≤ c ∧ c ≤ 122 := by
  have hl : i.toNat < abc.length := by show i.toNat < 26; omega
  refine ⟨abc[i.toNat], xGet_int h0 hl, ?_⟩
  have h : ∀ k : Fin 26, 97 ≤ abc[k.val]'(by show k.val < 26; exact k.isLt) ∧ abc[k.val]'(by show k.val < 26; exact k.isLt) ≤ 122 := by decide
  exact h ⟨i.toNat, by omega⟩
theorem lt1 (a b : Nat) : xLt [a] [b] = decide (a < b) := by
  unfold xLt
  refine decide_eq_decide.mpr ?_
  constructor
  · intro h
    rcases List.cons_lt_cons_iff.mp h with h | ⟨_, h⟩
    · exact h
    · exact absurd h (List.lt_irrefl _)
  · exact fun h => List.cons_lt_cons_iff.mpr (.inl h)
theorem gt1 (a b : Nat) : xGt [a] [b] = decide (b < a) := lt1 b a
theorem is_letters_ok (w : Tx) (most : Int) : ∃ b : Bool, m_is_letters w most = .ok b ∧ (b = true ↔ (w.length : Int) ≤ most ∧ WOk w) := by
  unfold m_is_letters
  by_cases h : ((w.length : Nat) : Int) > most
  · rw [if_pos (decide_eq_true h)]
    exact ⟨false, rfl, fun z => by (cases z), fun z => absurd z.1 (by omega)⟩
  · rw [if_neg (by simpa using h)]
    rw [forR_find (P := fun l : Tx => (xLt l ([97] : Tx)) || (xGt l ([122] : Tx))) (g := fun _ => false) (fun x _ => by split <;> rfl), Res.bind_ok]
    cases e : (chars w).find? fun l : Tx => (xLt l ([97] : Tx)) || (xGt l ([122] : Tx)) with
    | none =>
      refine ⟨true, rfl, fun _ => ⟨by omega, fun c hc => ?_⟩, fun _ => rfl⟩
      have := List.find?_eq_none.mp e [c] (by unfold chars; exact List.mem_map.mpr ⟨c, hc, rfl⟩)
      rw [lt1, gt1] at this
      simp at this
      omega
    | some x =>
      have hx := List.mem_of_find?_eq_some e
      have hp0 := List.find?_some e
      unfold chars at hx
      obtain ⟨c, hc, rfl⟩ := List.mem_map.mp hx
      refine ⟨false, rfl, fun z => by (cases z), fun z => ?_⟩
      have := z.2 c hc
      have hp : ((xLt [c] ([97] : Tx)) || (xGt [c] ([122] : Tx))) = true := hp0
      rw [lt1, gt1] at hp
      simp at hp
      omega
theorem check_ok {w : Tx} (h : WOk w) (hl : w.length ≤ 60) : m_check_word w = .ok () := by
  obtain ⟨b, e, hb⟩ := is_letters_ok w 60
  have : b = true := hb.mpr ⟨by omega, h⟩
  subst this
  unfold m_check_word m_is_word
  rw [e]
  rfl
theorem check_bad {w : Tx} (h : ¬ (w.length ≤ 60 ∧ WOk w)) : m_check_word w = .exc ⟨"BadWord", [("word", enc w)]⟩ := by
  obtain ⟨b, e, hb⟩ := is_letters_ok w 60
  have : b = false := by
    cases b with
    | false => rfl
    | true => exact absurd (hb.mp rfl) fun z => h ⟨by omega, z.2⟩
  subst this
  unfold m_check_word m_is_word
  rw [e]
  rfl
theorem rep_wok {w : Tx} (h : WOk w) (n : Nat) : WOk (List.replicate n w).flatten := fun c hc => by
  obtain ⟨l, hl, hcl⟩ := List.mem_flatten.mp hc
  rw [(List.mem_replicate.mp hl).2] at hcl
  exact h c hcl
theorem rep_len (w : Tx) (n : Nat) : (List.replicate n w).flatten.length = n * w.length := by
  rw [List.length_flatten, List.map_replicate, List.sum_replicate_nat]
theorem fld_value {c : Str} {f : Str} {x : Int} : fldI c f ⟨c, [(f, enc x)]⟩ = .ok x := by
  unfold fldI
  rw [if_pos rfl]
  have : List.lookup f [(f, (enc x : V))] = some (V.int x) := by simp [List.lookup, enc]; rfl
  dsimp only
  rw [this]
theorem fld_text {c : Str} {f : Str} {x : Tx} (h : x.length ≤ 1000) : fldT c f ⟨c, [(f, enc x)]⟩ = .ok x := by
  unfold fldT
  rw [if_pos rfl]
  have : List.lookup f [(f, (enc x : V))] = some (V.str (mkS x)) := by simp [List.lookup, enc]; rfl
  dsimp only
  rw [this]
  dsimp only
  rw [mkS_list, if_pos (Nat.le_trans h (by decide))]
theorem abc_Ok {i : Int} {P : Tx → Prop} (h0 : 0 ≤ i) (h1 : i < 26) (k : ∀ c, 97 ≤ c → c ≤ 122 → P [c]) : Ok (xGet ([97, 98, 99, 100, 101, 102, 103, 104, 105, 106, 107, 108, 109, 110, 111, 112, 113, 114, 115, 116, 117, 118, 119, 120, 121, 122] : Tx) i) P := by
  obtain ⟨c, e, a, b⟩ := abc_get h0 h1
  exact ⟨_, e, k c a b⟩
theorem flat_one (n : Nat) (c : Nat) : (List.replicate n ([c] : Tx)).flatten = List.replicate n c := List.flatten_replicate_singleton
theorem wok_one {c : Nat} (h1 : 97 ≤ c) (h2 : c ≤ 122) (n : Nat) : WOk (List.replicate n c) := fun x hx => by
  rw [(List.mem_replicate.mp hx).2]
  exact ⟨h1, h2⟩
/-- an odd sign put in -/
theorem bad_in {c : Nat} (h : c < 97 ∨ 122 < c) (a b : Tx) : ¬ WOk (a ++ [c] ++ b) := fun z => by
  have := z c (by simp)
  omega
end G
/-! the pool of drawn numbers (laws k01 to k08 and others) -/
namespace G
open PySem L2 M
section
variable {α β S : Type} {P : α → Prop}
theorem mapS_inv {f : α → S → Res (β × S)} (Iv : S → Prop) (R : β → Prop) : ∀ {xs : List α} {s : S}, Iv s → (∀ x ∈ xs, ∀ s, Iv s → Ok (f x s) fun y => R y.1 ∧ Iv y.2) → Ok (mapS f xs s) fun y => y.1.length = xs.length ∧ (∀ b ∈ y.1, R b) ∧ Iv y.2
  | [], s, h, _ => ⟨_, rfl, rfl, fun b hb => (by simp at hb), h⟩
  | x :: xs, s, h, k => by
    show Ok ((f x s).bind fun y => (mapS f xs y.2).bind fun z => .ok (y.1 :: z.1, z.2)) _
    refine ok_bind (ok_mono (k x List.mem_cons_self s h) fun y hy => ?_)
    refine ok_bind (ok_mono (mapS_inv Iv R hy.2 fun x hx => k x (List.mem_cons_of_mem _ hx)) fun z hz => ?_)
    refine ok_ret ⟨by show (y.1 :: z.1).length = _; rw [List.length_cons, List.length_cons, hz.1], fun b hb => ?_, hz.2.2⟩
    rcases List.mem_cons.mp hb with e | e
    · rw [e]; exact hy.1
    · exact hz.2.1 b e
theorem ok_lcS {f : α → S → Res (β × S)} {xs : List α} {s : S} {Q : List β × S → Prop} (Iv : S → Prop) (R : β → Prop) (hl : xs.length ≤ 100000) (h : Iv s) (step : ∀ x ∈ xs, ∀ s, Iv s → Ok (f x s) fun y => R y.1 ∧ Iv y.2)
    (post : ∀ y : List β × S, y.1.length = xs.length → (∀ b ∈ y.1, R b) → Iv y.2 → Q y) : Ok (lcS f xs s) Q := by
  obtain ⟨y, e, h1, h2, h3⟩ := mapS_inv Iv R h step
  refine ⟨y, ?_, post y h1 h2 h3⟩
  unfold lcS
  rw [clo_eq, if_pos (show xs.length ≤ line from Nat.le_trans hl (by decide)), e]
end
def PoolOk (p : List Int) : Prop := p.length = 12 ∧ ∀ x ∈ p, 0 ≤ x
theorem mixed_Ok {cell k : Int} (h : -1000000000000000000 < cell ∧ cell < 1000000000000000000) (hk : 0 ≤ k ∧ k < 12) : Ok (m_law_mixed cell k) fun _ => True := by
  unfold m_law_mixed
  have big : ∀ {x y : Int}, x.natAbs < 2 ^ 1000 → y.natAbs < 2 ^ 1000 → ∀ {P : Int → Prop}, P (x * y) → Ok (mulI x y) P := fun h1 h2 _ k => ⟨_, mulI_ok h1 h2, k⟩
  have sm : ∀ {x : Int}, -10000000000000000000 < x ∧ x < 10000000000000000000 → x.natAbs < 2 ^ 1000 := fun {x} h => Nat.lt_of_lt_of_le (by omega : x.natAbs < 10000000000000000000) (by decide +kernel)
  refine ok_bind (ok_bind (ok_bind (ok_bind (ok_bind (big (sm (by omega)) (sm (by omega)) (ok_bind (ok_mulI (by omega) (by omega) (ok_ret (ok_ret (ok_ret (ok_modI (by omega) ?_)))))))))))
  refine ok_bind (ok_ret (ok_bind (ok_rngR (by omega) (by omega) (ok_bind ?_))))
  refine ok_forN (a := 0) (b := 32) (fun j (s : Int × Int) => 0 ≤ s.1 ∧ s.1 < 2147483648 ∧ 0 ≤ s.2 ∧ s.2 < ((2147483648 ^ j : Nat) : Int)) (by omega) ?_ ?_ ?_
  · have := Int.emod_nonneg (cell * 48271 + k * 69621 + 7) (b := 2147483647) (by omega)
    have := Int.emod_lt_of_pos (cell * 48271 + k * 69621 + 7) (b := 2147483647) (by omega)
    exact ⟨by assumption, by omega, by omega, by show (0 : Int) < _; simp⟩
  · rintro j ⟨n, w⟩ _ hj ⟨h1, h2, h3, h4⟩
    dsimp only at h1 h2 h3 h4 ⊢
    have pj : 2147483648 ^ j ≤ 2147483648 ^ 31 := Nat.pow_le_pow_right (by omega) (by omega)
    have wb : w.natAbs < 2 ^ 1000 := by
      have e : 2147483648 ^ 31 < 2 ^ 1000 := by decide +kernel
      exact Nat.lt_trans (by omega : w.natAbs < 2147483648 ^ 31) e
    refine ok_bind (ok_bind (ok_bind (ok_bind (ok_bind (ok_mulI (by omega) (by omega) (ok_bind (ok_mulI (by omega) (by omega) (ok_ret (ok_ret (ok_ret (ok_modI (by omega) ?_)))))))))))
    refine ok_bind (ok_bind (big wb (by decide +kernel) (ok_ret (ok_ret ?_))))
    have a1 := Int.emod_nonneg (n * 16807 + (j : Int) * 40692 + 11) (b := 2147483399) (by omega)
    have a2 := Int.emod_lt_of_pos (n * 16807 + (j : Int) * 40692 + 11) (b := 2147483399) (by omega)
    refine ⟨a1, by omega, Int.add_nonneg (Int.mul_nonneg h3 (by omega)) a1, ?_⟩
    rw [Nat.pow_succ]
    generalize 2147483648 ^ j = q at h4 ⊢
    dsimp only
    omega
  · exact fun _ _ => ⟨_, rfl, trivial⟩
theorem ok_pos {x y : Int} (h : 0 < y) : 0 ≤ x % y := Int.emod_nonneg _ (by omega)
theorem pool_Ok (s : List Int) (hs : s.length ≤ 63) : Ok (m_law_pool s) PoolOk := by
  unfold m_law_pool
  refine ok_bind (ok_ret (ok_bind (ok_rngR (by omega) (by omega) (ok_bind ?_))))
  refine ok_forN (a := 0) (b := 12) (fun j (p : List Int) => p.length = j ∧ ∀ x ∈ p, 0 ≤ x) (by omega) ?_ ?_ ?_
  · exact ⟨rfl, fun x hx => by simp at hx⟩
  · rintro j p _ hj ⟨h1, h2⟩
    refine ok_bind (ok_ret ?_)
    refine ok_bind (ok_mono (Q := fun _ => True) ?_ ?_)
    · refine ok_ite (fun h => ?_) (fun h => ?_)
      · have := of_decide_eq_true h
        exact ok_bind (ok_lGet (by omega) (by omega) (ok_ret trivial))
      · refine ok_bind (ok_mono (Q := fun _ => True) ?_ fun _ _ => ok_ret trivial)
        refine ok_ite (fun h => ?_) (fun h => ok_ret trivial)
        have := of_decide_eq_true h
        have := Int.emod_nonneg (j : Int) (b := (s.length : Int)) (by omega)
        have := Int.emod_lt_of_pos (j : Int) (b := (s.length : Int)) (by omega)
        exact ok_bind (ok_bind (ok_bind (ok_bind (ok_modI (by omega) (ok_lGet (by omega) (by omega) (ok_ret (ok_modI (by omega) (ok_ret trivial))))))))
    · rintro cell -
      refine ok_bind (ok_mono (Q := fun _ => True) ?_ ?_)
      · refine ok_ite (fun h => ?_) (fun h => ok_ret trivial)
        have := of_decide_eq_true h
        refine ok_bind (ok_mono (mixed_Ok ?_ (by omega)) fun _ _ => ok_ret trivial)
        split at this <;> omega
      · rintro c -
        have big : (0 : Int) < (1000000000000000000000000000000000000000000000000000000000000000000000000000000000000000000000000000000000000000000000000000000000000000000000000000000000000000000000000000000000000000000000000000000000000000000000000000000000000000000000000000000000000000000000000000000000000000000000000000000000000000000000000000000000000000000000000000000000000000000000000 : Int) := by decide +kernel
        refine ok_bind (ok_modI big (ok_bind (ok_lApp (by omega) (ok_ret ⟨by rw [List.length_append, h1]; rfl, fun x hx => ?_⟩))))
        rcases List.mem_append.mp hx with h | h
        · exact h2 x h
        · have e : x = c % (1000000000000000000000000000000000000000000000000000000000000000000000000000000000000000000000000000000000000000000000000000000000000000000000000000000000000000000000000000000000000000000000000000000000000000000000000000000000000000000000000000000000000000000000000000000000000000000000000000000000000000000000000000000000000000000000000000000000000000000000000 : Int) := by simpa using h
          rw [e]
          exact ok_pos big
  · exact fun p h => ⟨_, rfl, h⟩
theorem pdraw_Ok {p : List Int} {k many : Int} (h : PoolOk p) (hk : 0 ≤ k ∧ k < 12) (hm : 0 < many ∧ many < 2 ^ 1000) : Ok (m_law_draw p k many) fun r => 0 ≤ r.1 ∧ r.1 < many ∧ PoolOk r.2 := by
  unfold m_law_draw
  have hl := h.1
  refine ok_bind (ok_bind (ok_bind (ok_lGetE (by omega) (by omega) fun hx => ok_ret (ok_modI hm.1 ?_))))
  refine ok_bind (ok_bind (ok_lGetE (by omega) (by omega) fun hx => ⟨_, divI_ok hm.1 hm.2, ?_⟩))
  refine ok_bind (ok_lSet (by omega) (by omega) (ok_ret ⟨ok_pos hm.1, Int.emod_lt_of_pos _ hm.1, by show (List.set _ _ _).length = 12; rw [List.length_set]; exact hl, fun x hx => ?_⟩))
  rcases List.mem_or_eq_of_mem_set hx with h1 | h1
  · exact h.2 x h1
  · rw [h1]
    exact Int.ediv_nonneg (h.2 _ (List.getElem_mem _)) (by omega)
theorem one_get {w : Tx} {i : Int} {P : Tx → Prop} (h0 : 0 ≤ i) (h : i < w.length) (k : ∀ c ∈ w, P [c]) : Ok (xGet w i) P := ⟨_, xGet_int h0 (by omega), k _ (List.getElem_mem _)⟩
theorem ok_lJoin {sep : Tx} {xs : List Tx} {P : Tx → Prop} (h : (xs.map (·.length)).sum + xs.length * sep.length ≤ 1000000) (k : P (joinT sep xs)) : Ok (lJoin sep xs) P := by
  refine ⟨_, ?_, k⟩
  unfold lJoin
  rw [clo_eq, if_pos (Nat.le_trans h (by decide))]
theorem ones_join {Q : Nat → Prop} : ∀ {ys : List Tx}, (∀ t ∈ ys, ∃ c, Q c ∧ t = [c]) → (ys.map (·.length)).sum = ys.length ∧ (joinT [] ys).length = ys.length ∧ ∀ c ∈ joinT [] ys, Q c := by
  intro ys h
  rw [joinT_nil]
  induction ys with
  | nil => exact ⟨rfl, rfl, fun c hc => by simp at hc⟩
  | cons y ys ih =>
    obtain ⟨a, b, d⟩ := ih fun t ht => h t (List.mem_cons_of_mem _ ht)
    obtain ⟨c, hc, e⟩ := h y List.mem_cons_self
    subst e
    refine ⟨by rw [List.map_cons, List.sum_cons, a]; simp; omega, by rw [List.flatten_cons, List.length_append, b]; simp; omega, fun z hz => ?_⟩
    rw [List.flatten_cons] at hz
    rcases List.mem_append.mp hz with q | q
    · have : z = c := by simpa using q
      rw [this]; exact hc
    · exact d z q
theorem pword_Ok {p : List Int} {k size : Int} {kinds : Tx} (h : PoolOk p) (hk : 0 ≤ k ∧ k < 12) (hw : WOk kinds) (hn : 0 < kinds.length ∧ kinds.length ≤ 1000) (hs : 0 ≤ size ∧ size ≤ 1000) :
    Ok (m_law_word p k kinds size) fun r => (r.1.length : Int) = size ∧ WOk r.1 ∧ PoolOk r.2 := by
  unfold m_law_word
  refine ok_bind (ok_rngR (by omega) (by omega) ?_)
  have rl : (rng 0 size).length = size.toNat := by rw [rng_len]; omega
  refine ok_bind (ok_lcS PoolOk (fun t : Tx => ∃ c ∈ kinds, t = [c]) (by omega) h (fun x hx s hs => ?_) ?_)
  · refine ok_bind (ok_noX (ok_mono (pdraw_Ok hs hk ⟨by omega, Int.lt_of_lt_of_le (by omega : (kinds.length : Int) < 1000000) (by decide +kernel)⟩) fun r hr => ?_))
    exact ok_bind (one_get hr.1 hr.2.1 fun c hc => ok_ret ⟨⟨c, hc, rfl⟩, hr.2.2⟩)
  · rintro ⟨ys, s⟩ h1 h2 h3
    dsimp only at h1 h2 h3 ⊢
    obtain ⟨a1, a2, a3⟩ := ones_join h2
    refine ok_bind (ok_lJoin (by simp; omega) (ok_ret ⟨?_, fun c hc => hw c (a3 c hc), h3⟩))
    dsimp only
    omega
theorem podd_Ok {p : List Int} {w : Tx} (h : PoolOk p) (hw : WOk w) (hl : w.length ≤ 1000) : Ok (m_law_odd p w) fun r => ¬ WOk r.1 ∧ r.1.length ≤ w.length + 1 ∧ (∀ c ∈ r.1, c < 128) ∧ PoolOk r.2 := by
  unfold m_law_odd
  have sg : ∀ c ∈ ([32, 33, 34, 35, 36, 38, 39, 40, 41, 42, 43, 44, 45, 46, 47, 48, 49, 50, 51, 52, 53, 54, 55, 56, 57, 58, 59, 60, 61, 62, 63, 64, 65, 66, 67, 68, 69, 70, 71, 72, 73, 74, 75, 76, 77, 78, 79, 80, 81, 82, 83, 84, 85, 86, 87, 88, 89, 90, 91, 92, 93, 94, 95, 96, 123, 124, 125, 126, 10] : Tx), (c < 97 ∨ 122 < c) ∧ c < 128 := by decide
  have nl : ([32, 33, 34, 35, 36, 38, 39, 40, 41, 42, 43, 44, 45, 46, 47, 48, 49, 50, 51, 52, 53, 54, 55, 56, 57, 58, 59, 60, 61, 62, 63, 64, 65, 66, 67, 68, 69, 70, 71, 72, 73, 74, 75, 76, 77, 78, 79, 80, 81, 82, 83, 84, 85, 86, 87, 88, 89, 90, 91, 92, 93, 94, 95, 96, 123, 124, 125, 126, 10] : Tx).length = 69 := rfl
  generalize ([32, 33, 34, 35, 36, 38, 39, 40, 41, 42, 43, 44, 45, 46, 47, 48, 49, 50, 51, 52, 53, 54, 55, 56, 57, 58, 59, 60, 61, 62, 63, 64, 65, 66, 67, 68, 69, 70, 71, 72, 73, 74, 75, 76, 77, 78, 79, 80, 81, 82, 83, 84, 85, 86, 87, 88, 89, 90, 91, 92, 93, 94, 95, 96, 123, 124, 125, 126, 10] : Tx) = sgs at sg nl ⊢
  have lt : ∀ {x : Int}, x < 1000000000000 → x < 2 ^ 1000 := fun h => Int.lt_trans h (by decide +kernel)
  refine ok_bind (ok_ret (ok_bind (ok_mono (pdraw_Ok h (by omega) ⟨by omega, lt (by omega)⟩) fun r hr => ?_)))
  refine ok_bind (ok_mono (pdraw_Ok hr.2.2 (by omega) ⟨by omega, lt (by omega)⟩) fun r2 hr2 => ?_)
  refine ok_bind (one_get hr2.1 hr2.2.1 fun c hc => ?_)
  rw [cutTo hr.1, cutFrom hr.1]
  have t1 : (w.take r.1.toNat).length ≤ 1000 := by rw [List.length_take]; omega
  have t2 : (w.drop r.1.toNat).length ≤ 1000 := by rw [List.length_drop]; omega
  refine ok_bind (ok_bind (ok_xCat (by simp; omega) (ok_xCat (by simp; omega) (ok_ret ⟨bad_in (sg c hc).1 _ _, ?_, fun x hx => ?_, hr2.2.2⟩))))
  · rw [List.length_append, List.length_append, List.length_take, List.length_drop]
    simp
    omega
  · rcases List.mem_append.mp hx with h1 | h1
    · rcases List.mem_append.mp h1 with h2 | h2
      · have := hw x (List.mem_of_mem_take h2)
        omega
      · have e : x = c := by simpa using h2
        rw [e]
        exact (sg c hc).2
    · have := hw x (List.mem_of_mem_drop h1)
      omega
theorem strOk_small {b : Tx} (h : ∀ c ∈ b, c < 128) : PyData.strOk (mkS b) = true := by
  show (List.toArray b).all _ = true
  rw [List.all_toArray, List.all_eq_true]
  intro x hx
  have := h x hx
  exact decide_eq_true (by omega)
theorem wok_small {w : Tx} (h : WOk w) : ∀ c ∈ w, c < 128 := fun c hc => by have := h c hc; omega
theorem neV_same {d : PyData} (h : SeqAt.shaped d = true) : neV d d = .ok false := by
  unfold neV
  rw [h, PySem.SeqAt.eqv_refl d ((Bool.and_eq_true _ _).mp h).1]
  rfl
theorem bad_shaped {b : Tx} (h : ∀ c ∈ b, c < 128) : SeqAt.shaped (PyData.tuple [(Dat.toD (α := Tx) ([66, 97, 100, 87, 111, 114, 100] : Tx)), (Dat.toD (α := Tx) b), (Dat.toD (α := Bool) true)]) = true := by
  have a1 : PyData.strOk (mkS ([66, 97, 100, 87, 111, 114, 100] : Tx)) = true := strOk_small (by decide)
  have a2 := strOk_small h
  unfold SeqAt.shaped
  rw [Bool.and_eq_true]
  refine ⟨?_, rfl⟩
  show (PyData.strOk (mkS ([66, 97, 100, 87, 111, 114, 100] : Tx)) && (PyData.strOk (mkS b) && true)) = true
  rw [a1, a2]
  rfl
end G
namespace M
/-! words as functions of places; borders, prefixes, mirrors, covers -/
abbrev ltr (w : List Nat) (i : Nat) : Nat := w.getD i 0
theorem ltr_eq {w : List Nat} {i : Nat} (h : i < w.length) : ltr w i = w[i] := by
  unfold ltr
  rw [List.getD_eq_getElem?_getD, List.getElem?_eq_getElem h]
  rfl
theorem ltr_drop (w : List Nat) (a i : Nat) : ltr (w.drop a) i = ltr w (a + i) := by
  unfold ltr
  rw [List.getD_eq_getElem?_getD, List.getD_eq_getElem?_getD, List.getElem?_drop]
theorem ltr_take {w : List Nat} {s i : Nat} (h : i < s) : ltr (w.take s) i = ltr w i := by
  unfold ltr
  rw [List.getD_eq_getElem?_getD, List.getD_eq_getElem?_getD, List.getElem?_take_of_lt h]
theorem ltr_rev {w : List Nat} {i : Nat} (h : i < w.length) : ltr w.reverse i = ltr w (w.length - 1 - i) := by
  unfold ltr
  rw [List.getD_eq_getElem?_getD, List.getD_eq_getElem?_getD, List.getElem?_reverse h]
theorem ltr_ext {u v : List Nat} (hl : u.length = v.length) (h : ∀ i, i < u.length → ltr u i = ltr v i) : u = v := by
  apply List.ext_getElem hl
  intro i h1 h2
  have := h i h1
  rw [ltr_eq h1, ltr_eq h2] at this
  exact this
/-- two stretches of one word are the same -/
theorem seg_iff {w : List Nat} {a b s : Nat} (ha : a + s ≤ w.length) (hb : b + s ≤ w.length) : (w.drop a).take s = (w.drop b).take s ↔ ∀ i, i < s → ltr w (a + i) = ltr w (b + i) := by
  have la : ((w.drop a).take s).length = s := by rw [List.length_take, List.length_drop]; omega
  have lb : ((w.drop b).take s).length = s := by rw [List.length_take, List.length_drop]; omega
  constructor
  · intro e i hi
    have e2 := congrArg (fun u => ltr u i) e
    rw [ltr_take hi, ltr_take hi, ltr_drop, ltr_drop] at e2
    exact e2
  · intro h
    apply ltr_ext (by rw [la, lb])
    intro i hi
    rw [la] at hi
    rw [ltr_take hi, ltr_take hi, ltr_drop, ltr_drop]
    exact h i hi
/-! borders -/
def Bd (w : List Nat) (e s : Nat) : Prop := s < e ∧ ∀ i, i < s → ltr w i = ltr w (e - s + i)
theorem Bd.zero {w : List Nat} {e : Nat} (h : 0 < e) : Bd w e 0 := ⟨h, fun i hi => absurd hi (Nat.not_lt_zero _)⟩
theorem Bd.inner {w : List Nat} {e s c : Nat} (h : Bd w e s) (hc : c < s) : Bd w s c ↔ Bd w e c := by
  constructor
  · intro k
    refine ⟨by have := h.1; omega, fun i hi => ?_⟩
    rw [k.2 i hi, h.2 (s - c + i) (by omega)]
    have := h.1
    congr 1
    omega
  · intro k
    refine ⟨hc, fun i hi => ?_⟩
    rw [k.2 i hi, h.2 (s - c + i) (by omega)]
    have := h.1
    congr 1
    omega
theorem Bd.succ {w : List Nat} {e s : Nat} : Bd w (e + 1) (s + 1) ↔ Bd w e s ∧ ltr w s = ltr w e := by
  constructor
  · intro h
    have h1 := h.1
    refine ⟨⟨by omega, fun i hi => ?_⟩, ?_⟩
    · rw [h.2 i (by omega)]
      congr 1
      omega
    · rw [h.2 s (by omega)]
      congr 1
      omega
  · intro h
    have h1 := h.1.1
    refine ⟨by omega, fun i hi => ?_⟩
    by_cases q : i < s
    · rw [h.1.2 i q]
      congr 1
      omega
    · have e1 : i = s := by omega
      subst e1
      rw [h.2]
      congr 1
      omega
/-- the longest one -/
def LB (w : List Nat) (e b : Nat) : Prop := Bd w e b ∧ ∀ s, b < s → ¬ Bd w e s
theorem LB.uniq {w : List Nat} {e b c : Nat} (h : LB w e b) (k : LB w e c) : b = c := by
  rcases Nat.lt_trichotomy b c with q | q | q
  · exact absurd k.1 (h.2 c q)
  · exact q
  · exact absurd h.1 (k.2 b q)
/-- a candidate for the border of the next beginning: a border of this one, all longer ones refused -/
def Cand (w : List Nat) (p b : Nat) : Prop := (Bd w p b ∨ (p = 0 ∧ b = 0)) ∧ ∀ s, b < s → Bd w p s → ltr w s ≠ ltr w p
theorem Cand.start {w : List Nat} {p b : Nat} (h : LB w p b) : Cand w p b := ⟨.inl h.1, fun s hs k => absurd k (h.2 s hs)⟩
theorem Cand.start0 {w : List Nat} : Cand w 0 0 := ⟨.inr ⟨rfl, rfl⟩, fun s hs k => absurd k.1 (Nat.not_lt_zero _)⟩
theorem Cand.lt {w : List Nat} {p b : Nat} (h : Cand w p b) (hb : 0 < b) : b < p := by
  rcases h.1 with k | k
  · exact k.1
  · omega
theorem Cand.step {w : List Nat} {p b c : Nat} (h : Cand w p b) (hb : 0 < b) (hn : ltr w b ≠ ltr w p) (hc : LB w b c) : Cand w p c := by
  have k : Bd w p b := by
    rcases h.1 with k | k
    · exact k
    · omega
  refine ⟨.inl ((k.inner hc.1.1).mp hc.1), fun s hs ks => ?_⟩
  rcases Nat.lt_trichotomy s b with q | q | q
  · exact absurd ((k.inner q).mpr ks) (hc.2 s hs)
  · rw [q]; exact hn
  · exact h.2 s q ks
theorem Cand.endY {w : List Nat} {p b : Nat} (h : Cand w p b) (hb : b < p) (he : ltr w b = ltr w p) : LB w (p + 1) (b + 1) := by
  have k : Bd w p b := by
    rcases h.1 with k | k
    · exact k
    · omega
  refine ⟨Bd.succ.mpr ⟨k, he⟩, fun s hs ks => ?_⟩
  obtain ⟨s', rfl⟩ : ∃ s', s = s' + 1 := ⟨s - 1, by omega⟩
  have := Bd.succ.mp ks
  exact h.2 s' (by omega) this.1 this.2
theorem Cand.endN {w : List Nat} {p : Nat} (h : Cand w p 0) (hn : ¬ (0 < p ∧ ltr w 0 = ltr w p)) : LB w (p + 1) 0 := by
  refine ⟨Bd.zero (by omega), fun s hs ks => ?_⟩
  obtain ⟨s', rfl⟩ : ∃ s', s = s' + 1 := ⟨s - 1, by omega⟩
  have q := Bd.succ.mp ks
  by_cases e : s' = 0
  · subst e
    exact hn ⟨q.1.1, q.2⟩
  · exact h.2 s' (by omega) q.1 q.2
theorem Bd.seg {w : List Nat} {e s : Nat} (he : e ≤ w.length) (hs : s < e) : w.take s = (w.drop (e - s)).take s ↔ Bd w e s := by
  have := seg_iff (w := w) (a := 0) (b := e - s) (s := s) (by omega) (by omega)
  rw [List.drop_zero] at this
  rw [this]
  constructor
  · intro h
    exact ⟨hs, fun i hi => by rw [← h i hi, Nat.zero_add]⟩
  · intro h i hi
    rw [Nat.zero_add]
    exact h.2 i hi
/-! prefixes -/
def Pf (w : List Nat) (p s : Nat) : Prop := p + s ≤ w.length ∧ ∀ i, i < s → ltr w i = ltr w (p + i)
def LP (w : List Nat) (p s : Nat) : Prop := Pf w p s ∧ ∀ t, s < t → ¬ Pf w p t
theorem LP.uniq {w : List Nat} {e b c : Nat} (h : LP w e b) (k : LP w e c) : b = c := by
  rcases Nat.lt_trichotomy b c with q | q | q
  · exact absurd k.1 (h.2 c q)
  · exact q
  · exact absurd h.1 (k.2 b q)
theorem Pf.le {w : List Nat} {p s t : Nat} (h : Pf w p s) (ht : t ≤ s) : Pf w p t := ⟨by have := h.1; omega, fun i hi => h.2 i (by omega)⟩
theorem Pf.seg {w : List Nat} {p s : Nat} (hs : p + s ≤ w.length) : w.take s = (w.drop p).take s ↔ Pf w p s := by
  have := seg_iff (w := w) (a := 0) (b := p) (s := s) (by omega) (by omega)
  rw [List.drop_zero] at this
  rw [this]
  constructor
  · intro h
    exact ⟨hs, fun i hi => by rw [← h i hi, Nat.zero_add]⟩
  · intro h i hi
    rw [Nat.zero_add]
    exact h.2 i hi
theorem Pf.succ {w : List Nat} {p s : Nat} (h : Pf w p s) (hl : p + s < w.length) (he : ltr w s = ltr w (p + s)) : Pf w p (s + 1) := ⟨by omega, fun i hi => by
  by_cases q : i < s
  · exact h.2 i q
  · have : i = s := by omega
    subst this
    exact he⟩
theorem Pf.stop {w : List Nat} {p s : Nat} (h : Pf w p s) (hn : ¬ (p + s < w.length ∧ ltr w s = ltr w (p + s))) : LP w p s := ⟨h, fun t ht k => by
  have := k.1
  exact hn ⟨by omega, k.2 s ht⟩⟩
theorem Pf.inner {w : List Nat} {l r p c : Nat} (h : Pf w l (r - l)) (hl : l ≤ p) (hr : p < r) (k : Pf w (p - l) c) : Pf w p (min (r - p) c) := by
  have h1 := h.1
  refine ⟨by omega, fun i hi => ?_⟩
  have := k.2 i (by omega)
  rw [this, h.2 (p - l + i) (by omega)]
  congr 1
  omega
/-! mirrors: the palindrome from place f to place t - f -/
def Sym (w : List Nat) (t f : Nat) : Prop := ∀ i, f ≤ i → i + f ≤ t → ltr w i = ltr w (t - i)
def Pal (w : List Nat) (t f : Nat) : Prop := 2 * f ≤ t ∧ t < w.length + f ∧ Sym w t f
/-- v is the length of the longest palindrome -/
def LM (w : List Nat) (t : Nat) (v : Int) : Prop := (v = 0 ∧ ∀ f, ¬ Pal w t f) ∨ ∃ f, Pal w t f ∧ (∀ g, g < f → ¬ Pal w t g) ∧ v = (t : Int) + 1 - 2 * (f : Int)
theorem LM.uniq {w : List Nat} {t : Nat} {u v : Int} (h : LM w t u) (k : LM w t v) : u = v := by
  rcases h with ⟨h1, h2⟩ | ⟨f, h1, h2, h3⟩ <;> rcases k with ⟨k1, k2⟩ | ⟨g, k1, k2, k3⟩
  · omega
  · exact absurd k1 (h2 g)
  · exact absurd h1 (k2 f)
  · have : f = g := by
      rcases Nat.lt_trichotomy f g with q | q | q
      · exact absurd h1 (k2 f q)
      · exact q
      · exact absurd k1 (h2 g q)
    omega
theorem Sym.step {w : List Nat} {t l : Nat} (h : Sym w t (l + 1)) (e : ltr w l = ltr w (t - l)) : Sym w t l := by
  intro i h1 h2
  by_cases q : i = l
  · subst q; exact e
  by_cases q2 : i = t - l
  · have : t - i = l := by omega
    rw [this, q2]
    exact e.symm
  · exact h i (by omega) (by omega)
theorem Pal.down {w : List Nat} {t f g : Nat} (h : Pal w t f) (h1 : f ≤ g) (h2 : 2 * g ≤ t) : Pal w t g := ⟨h2, by have := h.2.1; omega, fun i a b => h.2.2 i (by omega) (by omega)⟩
/-- the walk from the middle ends at f -/
theorem LM.of {w : List Nat} {t f : Nat} (ht : t + 1 < 2 * w.length) (h1 : 2 * f ≤ t + 1) (hr : t < w.length + f) (hs : Sym w t f) (hn : ∀ l, f = l + 1 → t < w.length + l → ltr w l ≠ ltr w (t - l)) : LM w t ((t : Int) + 1 - 2 * (f : Int)) := by
  by_cases q : 2 * f ≤ t
  · refine .inr ⟨f, ⟨q, hr, hs⟩, fun g hg k => ?_, rfl⟩
    have k2 := k.down (g := f - 1) (by omega) (by omega)
    exact hn (f - 1) (by omega) k2.2.1 (k2.2.2 (f - 1) (Nat.le_refl _) (by omega))
  · have e : 2 * f = t + 1 := by omega
    refine .inl ⟨by omega, fun g k => ?_⟩
    have k2 := k.down (g := f - 1) (by have := k.1; omega) (by omega)
    exact hn (f - 1) (by omega) k2.2.1 (k2.2.2 (f - 1) (Nat.le_refl _) (by omega))
/-- trying all first places below k -/
def LMb (w : List Nat) (t k : Nat) (v : Int) : Prop := (v = 0 ∧ ∀ f, f < k → ¬ Pal w t f) ∨ ∃ f, f < k ∧ Pal w t f ∧ (∀ g, g < f → ¬ Pal w t g) ∧ v = (t : Int) + 1 - 2 * (f : Int)
theorem LMb.zero {w : List Nat} {t : Nat} : LMb w t 0 0 := .inl ⟨rfl, fun f h => absurd h (Nat.not_lt_zero _)⟩
theorem LMb.no {w : List Nat} {t k : Nat} {v : Int} (h : LMb w t k v) (n : ¬ Pal w t k) : LMb w t (k + 1) v := by
  rcases h with ⟨h1, h2⟩ | ⟨f, h0, h1, h2, h3⟩
  · exact .inl ⟨h1, fun f hf => by
      by_cases q : f = k
      · rw [q]; exact n
      · exact h2 f (by omega)⟩
  · exact .inr ⟨f, by omega, h1, h2, h3⟩
theorem LMb.yes {w : List Nat} {t k : Nat} {v : Int} (h : LMb w t k v) (n : Pal w t k) : LMb w t (k + 1) (max v ((t : Int) + 1 - 2 * (k : Int))) := by
  have := n.1
  rcases h with ⟨h1, h2⟩ | ⟨f, h0, h1, h2, h3⟩
  · exact .inr ⟨k, by omega, n, h2, by omega⟩
  · exact .inr ⟨f, by omega, h1, h2, by omega⟩
theorem LMb.all {w : List Nat} {t k : Nat} {v : Int} (h : LMb w t k v) (hk : t < 2 * k) : LM w t v := by
  rcases h with ⟨h1, h2⟩ | ⟨f, h0, h1, h2, h3⟩
  · exact .inl ⟨h1, fun f p => h2 f (by have := p.1; omega) p⟩
  · exact .inr ⟨f, h1, h2, h3⟩
/-- a stretch that reads the same backward -/
theorem Pal.seg {w : List Nat} {t f : Nat} (h1 : 2 * f ≤ t) (h2 : t < w.length + f) : (w.drop f).take (t + 1 - f - f) = ((w.drop f).take (t + 1 - f - f)).reverse ↔ Pal w t f := by
  have l : ((w.drop f).take (t + 1 - f - f)).length = t + 1 - f - f := by rw [List.length_take, List.length_drop]; omega
  constructor
  · intro e
    refine ⟨h1, h2, fun i a b => ?_⟩
    have e2 := congrArg (fun u => ltr u (i - f)) e
    rw [ltr_rev (by rw [l]; omega), l, ltr_take (by omega), ltr_take (by omega), ltr_drop, ltr_drop] at e2
    have x1 : f + (i - f) = i := by omega
    have x2 : f + (t + 1 - f - f - 1 - (i - f)) = t - i := by omega
    rw [x1, x2] at e2
    exact e2
  · intro p
    apply ltr_ext (by rw [List.length_reverse])
    intro i hi
    rw [ltr_rev hi]
    rw [l] at hi ⊢
    rw [ltr_take hi, ltr_take (by omega), ltr_drop, ltr_drop]
    have := p.2.2 (f + i) (by omega) (by omega)
    rw [this]
    congr 1
    omega
/-! periods -/
def Per (w : List Nat) (p : Nat) : Prop := ∀ i, i + p < w.length → ltr w i = ltr w (i + p)
theorem Per.seg {w : List Nat} {p : Nat} (h : p ≤ w.length) : w.drop p = w.take (w.length - p) ↔ Per w p := by
  have := seg_iff (w := w) (a := p) (b := 0) (s := w.length - p) (by omega) (by omega)
  rw [List.take_of_length_le (by rw [List.length_drop]; omega), List.drop_zero] at this
  rw [this]
  constructor
  · intro k i hi
    have := k i (by omega)
    rw [Nat.zero_add] at this
    rw [← this, Nat.add_comm]
  · intro k i hi
    rw [Nat.zero_add, k i (by omega), Nat.add_comm]
/-! covers -/
def CovB (w : List Nat) (s k j : Nat) : Prop := ∃ a, a < k ∧ Pf w a s ∧ a ≤ j ∧ j < a + s
def Cov (w : List Nat) (s : Nat) : Prop := ∀ j, j < w.length → ∃ a, Pf w a s ∧ a ≤ j ∧ j < a + s
/-- reach behind the places below k -/
def Rch (w : List Nat) (s k r : Nat) : Prop := r ≤ w.length ∧ (∀ j, j < r → CovB w s k j) ∧ ∀ a, a < k → Pf w a s → a + s ≤ r
theorem Rch.zero {w : List Nat} {s : Nat} : Rch w s 0 0 := ⟨Nat.zero_le _, fun j h => absurd h (Nat.not_lt_zero _), fun a h => absurd h (Nat.not_lt_zero _)⟩
theorem CovB.up {w : List Nat} {s k j : Nat} (h : CovB w s k j) : CovB w s (k + 1) j := by
  obtain ⟨a, h1, h2⟩ := h
  exact ⟨a, by omega, h2⟩
theorem Rch.no {w : List Nat} {s k r : Nat} (h : Rch w s k r) (n : ¬ Pf w k s) : Rch w s (k + 1) r := ⟨h.1, fun j hj => (h.2.1 j hj).up, fun a ha p => by
  by_cases q : a = k
  · subst q; exact absurd p n
  · exact h.2.2 a (by omega) p⟩
theorem Rch.yes {w : List Nat} {s k r : Nat} (h : Rch w s k r) (n : Pf w k s) (hr : k ≤ r) : Rch w s (k + 1) (k + s) := ⟨n.1, fun j hj => by
  by_cases q : j < k
  · exact (h.2.1 j (by omega)).up
  · exact ⟨k, by omega, n, by omega, hj⟩, fun a ha p => by omega⟩
theorem Rch.gap {w : List Nat} {s k r : Nat} (h : Rch w s k r) (hr : r < k) (hk : k ≤ w.length) : ¬ Cov w s := fun c => by
  obtain ⟨a, p, h1, h2⟩ := c r (by omega)
  have := h.2.2 a (by omega) p
  omega
theorem Rch.fin {w : List Nat} {s r : Nat} (h : Rch w s w.length r) (hs : 0 < s) : r = w.length ↔ Cov w s := by
  constructor
  · intro e j hj
    obtain ⟨a, _, p⟩ := h.2.1 j (by omega)
    exact ⟨a, p⟩
  · intro c
    have := h.1
    by_cases q : r = w.length
    · exact q
    · obtain ⟨a, p, h1, h2⟩ := c r (by omega)
      have := h.2.2 a (by have := p.1; omega) p
      omega
end M
namespace M
/-! turns of a word, its root -/
/-- the word round and round -/
def cyc (w : List Nat) (i : Nat) : Nat := ltr w (i % w.length)
/-- the word turned by c -/
def trnL (w : List Nat) (c : Nat) : List Nat := w.drop c ++ w.take c
/-- round and round the word is the same c places on -/
def Rot (w : List Nat) (c : Nat) : Prop := ∀ i, cyc w (i + c) = cyc w i
theorem trnL_len {w : List Nat} {c : Nat} : (trnL w c).length = w.length := by
  unfold trnL
  rw [List.length_append, List.length_drop, List.length_take]
  omega
theorem trnL_at {w : List Nat} {c i : Nat} (hc : c < w.length) (hi : i < w.length) : ltr (trnL w c) i = cyc w (c + i) := by
  have dl : (w.drop c).length = w.length - c := List.length_drop
  unfold cyc trnL
  by_cases q : c + i < w.length
  · rw [Nat.mod_eq_of_lt q]
    show (w.drop c ++ w.take c).getD i 0 = _
    rw [List.getD_eq_getElem?_getD, List.getElem?_append_left (by omega), ← List.getD_eq_getElem?_getD]
    exact ltr_drop w c i
  · rw [show (c + i) % w.length = c + i - w.length by rw [Nat.mod_eq_sub_mod (by omega), Nat.mod_eq_of_lt (by omega)]]
    show (w.drop c ++ w.take c).getD i 0 = _
    rw [List.getD_eq_getElem?_getD, List.getElem?_append_right (by omega), ← List.getD_eq_getElem?_getD, dl]
    have e : i - (w.length - c) = c + i - w.length := by omega
    rw [e]
    exact ltr_take (by omega)
theorem cyc_add (w : List Nat) (i k : Nat) : cyc w (i + w.length * k) = cyc w i := by
  unfold cyc
  rw [Nat.add_mul_mod_self_left]
theorem rot_n (w : List Nat) : Rot w w.length := fun i => by
  have := cyc_add w i 1
  rw [Nat.mul_one] at this
  exact this
theorem rot_zero (w : List Nat) : Rot w 0 := fun i => rfl
theorem Rot.add {w : List Nat} {a b : Nat} (h : Rot w a) (k : Rot w b) : Rot w (a + b) := fun i => by rw [← Nat.add_assoc, k, h]
theorem Rot.mul {w : List Nat} {a : Nat} (h : Rot w a) : ∀ m, Rot w (a * m)
  | 0 => rot_zero w
  | m + 1 => by rw [Nat.mul_succ]; exact (h.mul m).add h
theorem Rot.sub {w : List Nat} {a b : Nat} (h : Rot w a) (k : Rot w (a + b)) : Rot w b := fun i => by
  have e1 := h (i + b)
  have e2 := k i
  rw [show i + b + a = i + (a + b) by omega] at e1
  rw [← e1, e2]
theorem rot_turn {w : List Nat} {a b : Nat} (ha : a ≤ b) (hb : b < w.length) : trnL w a = trnL w b ↔ Rot w (b - a) := by
  constructor
  · intro h i
    have key : ∀ j, j < w.length → cyc w (a + j) = cyc w (b + j) := fun j hj => by
      rw [← trnL_at (by omega) hj, ← trnL_at hb hj, h]
    -- i as a + j round and round
    have e : cyc w i = cyc w (a + (i + (w.length - a)) % w.length) := by
      unfold cyc
      congr 1
      rw [Nat.add_mod, Nat.mod_mod, ← Nat.add_mod, show a + (i + (w.length - a)) = i + w.length by omega, Nat.add_mod_right]
    have e2 : cyc w (i + (b - a)) = cyc w (b + (i + (w.length - a)) % w.length) := by
      unfold cyc
      congr 1
      rw [Nat.add_mod b, Nat.mod_mod, ← Nat.add_mod, show b + (i + (w.length - a)) = i + (b - a) + w.length by omega, Nat.add_mod_right]
    rw [e, e2, key _ (Nat.mod_lt _ (by omega))]
  · intro h
    refine ltr_ext (by rw [trnL_len, trnL_len]) fun i hi => ?_
    rw [trnL_len] at hi
    rw [trnL_at (by omega) hi, trnL_at hb hi]
    have := h (a + i)
    rw [show a + i + (b - a) = b + i by omega] at this
    exact this.symm
/-- the length of the root -/
structure RL (w : List Nat) (d : Nat) : Prop where
  pos : 1 ≤ d
  rot : Rot w d
  least : ∀ c, 1 ≤ c → c < d → ¬ Rot w c
theorem least_of {P : Nat → Prop} : ∀ (n q : Nat), q ≤ n → 1 ≤ q → P q → ∃ p, 1 ≤ p ∧ P p ∧ p ≤ q ∧ ∀ r, 1 ≤ r → r < p → ¬ P r
  | 0, q, h1, h2, _ => by omega
  | n + 1, q, h1, h2, k => by
    by_cases c : ∃ r, 1 ≤ r ∧ r < q ∧ P r
    · obtain ⟨r, r1, r2, r3⟩ := c
      obtain ⟨p, a, b, e, f⟩ := least_of n r (by omega) r1 r3
      exact ⟨p, a, b, by omega, f⟩
    · exact ⟨q, h2, k, Nat.le_refl _, fun r r1 r2 z => c ⟨r, r1, r2, z⟩⟩
theorem rl_ex {w : List Nat} (h : 0 < w.length) : ∃ d, RL w d ∧ d ≤ w.length := by
  obtain ⟨d, a, b, c, e⟩ := least_of (P := Rot w) w.length w.length (Nat.le_refl _) h (rot_n w)
  exact ⟨d, ⟨a, b, e⟩, c⟩
theorem RL.dvd {w : List Nat} {d c : Nat} (h : RL w d) : Rot w c ↔ d ∣ c := by
  constructor
  · intro k
    have e := Nat.div_add_mod c d
    have hm : Rot w (c % d) := (h.rot.mul (c / d)).sub (by rw [e]; exact k)
    by_cases z : c % d = 0
    · exact Nat.dvd_of_mod_eq_zero z
    · exact absurd hm (h.least _ (by omega) (Nat.mod_lt _ h.pos))
  · rintro ⟨m, rfl⟩
    exact h.rot.mul m
theorem RL.same {w : List Nat} {d a b : Nat} (h : RL w d) (ha : a < w.length) (hb : b < w.length) : trnL w a = trnL w b ↔ a % d = b % d := by
  have main : ∀ {a b : Nat}, a ≤ b → b < w.length → (trnL w a = trnL w b ↔ a % d = b % d) := by
    intro a b hab hb
    rw [rot_turn hab hb, h.dvd]
    constructor
    · rintro ⟨m, hm⟩
      rw [show b = a + d * m by omega, Nat.add_mul_mod_self_left]
    · intro e
      exact Nat.dvd_of_mod_eq_zero (Nat.sub_mod_eq_zero_of_mod_eq e.symm)
  rcases Nat.le_total a b with q | q
  · exact main q hb
  · exact (eq_comm.trans (main q ha)).trans eq_comm
theorem ltr_reps {u : List Nat} {k i : Nat} (h : i < k * u.length) : ltr (List.replicate k u).flatten i = ltr u (i % u.length) := by
  induction k generalizing i with
  | zero => omega
  | succ k ih =>
    rw [Nat.add_mul, Nat.one_mul] at h
    rw [List.replicate_succ, List.flatten_cons]
    by_cases q : i < u.length
    · rw [Nat.mod_eq_of_lt q]
      show (u ++ _).getD i 0 = u.getD i 0
      rw [List.getD_eq_getElem?_getD, List.getElem?_append_left q, ← List.getD_eq_getElem?_getD]
    · show (u ++ _).getD i 0 = _
      rw [List.getD_eq_getElem?_getD, List.getElem?_append_right (by omega), ← List.getD_eq_getElem?_getD]
      have := ih (i := i - u.length) (by omega)
      rw [Nat.mod_eq_sub_mod (by omega)]
      exact this
/-- a beginning that is written out to the whole word -/
theorem root_rot {w : List Nat} {c : Nat} (h0 : 0 < c) (hc : c ∣ w.length) (hl : 0 < w.length) : (List.replicate (w.length / c) (w.take c)).flatten = w ↔ Rot w c := by
  obtain ⟨m, hm⟩ := hc
  have cl : c ≤ w.length := Nat.le_of_dvd hl ⟨m, hm⟩
  have tl : (w.take c).length = c := by rw [List.length_take]; omega
  have dv : w.length / c = m := by rw [hm, Nat.mul_div_cancel_left _ h0]
  have fl : (List.replicate (w.length / c) (w.take c)).flatten.length = w.length := by
    rw [List.length_flatten, List.map_replicate, List.sum_replicate_nat, tl, dv, hm, Nat.mul_comm]
  have at_ : ∀ i, i < w.length → ltr (List.replicate (w.length / c) (w.take c)).flatten i = ltr w (i % c) := fun i hi => by
    rw [ltr_reps (by rw [tl, dv]; rw [hm, Nat.mul_comm] at hi; exact hi), tl, ltr_take (Nat.mod_lt _ h0)]
  have dc : ∀ x, x % w.length % c = x % c := fun x => Nat.mod_mod_of_dvd x ⟨m, hm⟩
  constructor
  · intro e i
    have key : ∀ i, i < w.length → ltr w i = ltr w (i % c) := fun i hi => by rw [← at_ i hi, e]
    unfold cyc
    rw [key _ (Nat.mod_lt _ hl), key (i % w.length) (Nat.mod_lt _ hl), dc, dc, Nat.add_mod_right]
  · intro h
    refine ltr_ext fl fun i hi => ?_
    rw [fl] at hi
    rw [at_ i hi]
    have k := h.mul (i / c) (i % c)
    rw [Nat.mod_add_div] at k
    unfold cyc at k
    rw [Nat.mod_eq_of_lt hi, Nat.mod_eq_of_lt (by have := Nat.mod_lt i h0; omega)] at k
    exact k.symm
end M
namespace G
open PySem L2 M
theorem empty_or (w : Tx) : (w = [] ∧ List.isEmpty w = true) ∨ (w ≠ [] ∧ List.isEmpty w = false ∧ 0 < w.length) := by
  cases w with
  | nil => exact .inl ⟨rfl, rfl⟩
  | cons _ _ => exact .inr ⟨by simp, rfl, by simp⟩
theorem rl_any (w : Tx) : ∃ d, RL w d ∧ d ≤ max 1 w.length := by
  rcases empty_or w with ⟨rfl, _⟩ | ⟨_, _, hp⟩
  · exact ⟨1, ⟨Nat.le_refl _, fun i => by unfold cyc ltr; simp, fun c a b => by omega⟩, by simp⟩
  · obtain ⟨d, h, k⟩ := rl_ex hp
    exact ⟨d, h, by omega⟩
theorem rl_le {w : Tx} {d : Nat} (h : RL w d) : d ≤ max 1 w.length ∧ (0 < w.length → d ∣ w.length) := by
  have dv := h.dvd.mp (rot_n w)
  by_cases z : w.length = 0
  · have e : w = [] := List.eq_nil_of_length_eq_zero z
    subst e
    refine ⟨?_, fun x => by simp at x⟩
    by_cases q : d ≤ 1
    · omega
    · exact absurd (fun i => by unfold cyc ltr; simp) (h.least 1 (Nat.le_refl _) (by omega))
  · have := Nat.le_of_dvd (by omega) dv
    exact ⟨by omega, fun _ => dv⟩
theorem root_ok {w : Tx} {d : Nat} (hw : WOk w) (hl : w.length ≤ 60) (h0 : 0 < w.length) (h : RL w d) : m_root w = .ok (w.take d) := by
  refine Ok.get (α := Tx) ?_
  obtain ⟨le, dv⟩ := rl_le h
  have dv := dv h0
  unfold m_root
  refine ok_bind (ok_eq (check_ok hw hl) (ok_bind (ok_ret (ok_bind (ok_rngR (by omega) (by omega) ?_)))))
  rw [show ((w.length : Nat) : Int) + 1 = ((w.length + 1 : Nat) : Int) by omega]
  refine ok_bind (ok_forRN (a := 1) (fun k _ => k ≤ d) (fun _ => False) (fun r => r = w.take d) (by omega) h.pos ?_ ?_ ?_ ?_)
  · rintro k _ k1 k2 kd
    refine ok_bind (ok_mono (Q := fun b => b = decide (k = d)) ?_ ?_)
    · refine ok_bind (ok_bind (ok_modI (by omega) (ok_ret ?_)))
      have em : ((w.length : Nat) : Int) % (k : Int) = ((w.length % k : Nat) : Int) := (Int.natCast_emod _ _).symm
      rw [em]
      by_cases z : w.length % k = 0
      · rw [decide_eq_true (by omega)]
        have dk : k ∣ w.length := Nat.dvd_of_mod_eq_zero z
        refine ok_tt (ok_bind (ok_bind (ok_divI (by omega) (by omega) ?_)))
        have ed : ((w.length : Nat) : Int) / (k : Int) = ((w.length / k : Nat) : Int) := (Int.natCast_ediv _ _).symm
        rw [ed, cutTo (by omega), tn_c]
        have tl : (w.take k).length = k := by rw [List.length_take]; omega
        have ml : k * (w.length / k) = w.length := Nat.mul_div_cancel' dk
        have dl := Nat.div_le_self w.length k
        refine ok_xRep (Int.natCast_nonneg _) (Int.le_trans (Int.ofNat_le.mpr dl) (by omega)) (by rw [tl, tn_c, ml]; omega) (ok_ret ?_)
        rw [tn_c]
        refine dec_congr ((root_rot (by omega) dk h0).trans ?_)
        constructor
        · intro r
          by_cases q : k = d
          · exact q
          · exact absurd r (h.least k k1 (by omega))
        · rintro rfl
          exact h.rot
      · rw [decide_eq_false (by omega)]
        refine ok_ff (ok_ret ?_)
        refine (decide_eq_false fun e => z ?_).symm
        subst e
        exact Nat.mod_eq_zero_of_dvd dv
    · rintro _ rfl
      by_cases q : k = d
      · rw [decide_eq_true q]
        refine ok_tt (ok_ret ?_)
        rw [cutTo (by omega), tn_c, q]
        rfl
      · rw [decide_eq_false q]
        refine ok_ff (ok_ret ?_)
        show k + 1 ≤ d
        omega
  · intro _ z
    exfalso
    omega
  · exact fun _ z => z.elim
  · rintro r rfl
    exact ⟨_, rfl, rfl⟩
/-! the root as a function -/
open Classical in
noncomputable def rtd (w : Tx) : Nat := Classical.choose (rl_any w)
theorem rtd_spec (w : Tx) : RL w (rtd w) := (Classical.choose_spec (rl_any w)).1
noncomputable def rt (w : Tx) : Tx := w.take (rtd w)
theorem rt_nil : rt [] = [] := by unfold rt; simp
theorem rl_uniq {w : Tx} {a b : Nat} (h : RL w a) (k : RL w b) : a = b := by
  rcases Nat.lt_trichotomy a b with q | q | q
  · exact absurd h.rot (k.least a h.pos q)
  · exact q
  · exact absurd k.rot (h.least b k.pos q)
theorem rt_len {w : Tx} (h : w ≠ []) : 1 ≤ (rt w).length ∧ (rt w).length = rtd w ∧ rtd w ∣ w.length ∧ rtd w ≤ w.length := by
  have hp := List.length_pos_iff.mpr h
  have r := rtd_spec w
  have := rl_le r
  have p := r.pos
  have l : (rt w).length = rtd w := by unfold rt; rw [List.length_take]; omega
  exact ⟨by omega, l, this.2 hp, by omega⟩
theorem rt_ne {w : Tx} (h : w ≠ []) : rt w ≠ [] := fun z => by
  have := rt_len h
  rw [z] at this
  simp at this
theorem rt_eq_nil {w : Tx} : rt w = [] ↔ w = [] := ⟨fun z => Classical.byContradiction fun q => rt_ne q z, fun z => by rw [z, rt_nil]⟩
theorem rt_wok {w : Tx} (h : WOk w) : WOk (rt w) := wok_take h _
theorem rt_le (w : Tx) : (rt w).length ≤ w.length := by unfold rt; rw [List.length_take]; omega
theorem root_all {w : Tx} (hw : WOk w) (hl : w.length ≤ 60) : m_root w = .ok (rt w) := by
  rcases empty_or w with ⟨rfl, e⟩ | ⟨e, e2, hp⟩
  · refine Ok.get (α := Tx) ?_
    unfold m_root
    refine ok_bind (ok_eq (check_ok hw hl) (ok_bind (ok_ret (ok_bind (ok_rngR (by simp) (by simp) ?_)))))
    rw [rng_nil (by simp)]
    exact ok_bind ⟨_, forR_nil, ok_ret rt_nil.symm⟩
  · exact root_ok hw hl hp (rtd_spec w)
theorem rot_dvd {w : Tx} {k : Nat} (h1 : 1 ≤ k) (dk : k ∣ w.length) : (∀ i, i < w.length → ltr w i = ltr w (i % k)) ↔ Rot w k := by
  constructor
  · intro h i
    by_cases z : w.length = 0
    · have e : w = [] := List.eq_nil_of_length_eq_zero z
      subst e
      unfold cyc ltr
      simp
    · unfold cyc
      have hp : 0 < w.length := by omega
      rw [h _ (Nat.mod_lt (i + k) hp), h _ (Nat.mod_lt i hp), Nat.mod_mod_of_dvd _ dk, Nat.mod_mod_of_dvd _ dk, Nat.add_mod_right]
  · intro h i hi
    have := (h.mul (i / k)) (i % k)
    rw [Nat.mod_add_div] at this
    unfold cyc at this
    have le := Nat.mod_le i k
    rw [Nat.mod_eq_of_lt hi, Nat.mod_eq_of_lt (by omega)] at this
    exact this
theorem law_written_ok {w : Tx} {k : Nat} (hl : w.length ≤ 60) (h1 : 1 ≤ k) (hk : k ≤ w.length) : Ok (m_law_written w (k : Int)) fun b => (b = true ↔ ∀ i, i < w.length → ltr w i = ltr w (i % k)) := by
  unfold m_law_written
  refine ok_bind (ok_rngR (by omega) (by omega) ?_)
  refine ok_bind (ok_forRN (a := 0) (fun n _ => ∀ i, i < n → ltr w i = ltr w (i % k)) (fun _ => False) (fun r => r = false ∧ ¬ ∀ i, i < w.length → ltr w i = ltr w (i % k)) (by omega) (fun i hi => by omega) ?_ ?_ ?_ ?_)
  · rintro n _ _ n2 hn
    have em : ((n : Nat) : Int) % (k : Int) = ((n % k : Nat) : Int) := (Int.natCast_emod _ _).symm
    have ml := Nat.mod_le n k
    refine ok_bind (ok_bind (ok_xGet (by omega) (by omega) (ok_bind (ok_bind (ok_modI (by omega) ?_)))))
    rw [em]
    refine ok_xGet (by omega) (by omega) (ok_ret ?_)
    rw [tn_c, tn_c]
    by_cases q : ltr w n = ltr w (n % k)
    · have q2 : ([w.getD n 0] : Tx) = [w.getD (n % k) 0] := by show [ltr w n] = [ltr w (n % k)]; rw [q]
      rw [decide_eq_true q2]
      refine ok_ff (ok_ret fun i hi => ?_)
      by_cases z : i = n
      · rw [z]; exact q
      · exact hn i (by omega)
    · have q2 : ¬ ([w.getD n 0] : Tx) = [w.getD (n % k) 0] := fun z => q (by have := List.head_eq_of_cons_eq z; exact this)
      rw [decide_eq_false q2]
      exact ok_tt (ok_ret ⟨rfl, fun z => q (z n n2)⟩)
  · intro _ h
    exact ok_ret ⟨fun _ => h, fun _ => rfl⟩
  · exact fun _ z => z.elim
  · rintro r ⟨rfl, h⟩
    exact ok_ret ⟨fun z => by (cases z), fun z => absurd z h⟩
theorem law_root_all {w : Tx} (hl : w.length ≤ 60) : m_law_root w = .ok (rt w) := by
  refine Ok.get (α := Tx) ?_
  unfold m_law_root
  refine ok_bind (ok_rngR (by omega) (by omega) ?_)
  rcases empty_or w with ⟨rfl, e⟩ | ⟨e, e2, hp⟩
  · rw [rng_nil (by simp)]
    exact ok_bind ⟨_, forR_nil, ok_ret rt_nil.symm⟩
  have h := rtd_spec w
  obtain ⟨_, _, dv, le⟩ := rt_len e
  rw [show ((w.length : Nat) : Int) + 1 = ((w.length + 1 : Nat) : Int) by omega]
  refine ok_bind (ok_forRN (a := 1) (fun k _ => k ≤ rtd w) (fun _ => False) (fun r => r = rt w) (by omega) h.pos ?_ ?_ ?_ ?_)
  · rintro k _ k1 k2 kd
    refine ok_bind (ok_mono (Q := fun b => b.1 = decide (k = rtd w)) ?_ ?_)
    · refine ok_bind (ok_bind (ok_modI (by omega) (ok_ret ?_)))
      have em : ((w.length : Nat) : Int) % (k : Int) = ((w.length % k : Nat) : Int) := (Int.natCast_emod _ _).symm
      rw [em]
      by_cases z : w.length % k = 0
      · rw [decide_eq_true (by omega)]
        have dk : k ∣ w.length := Nat.dvd_of_mod_eq_zero z
        refine ok_tt (ok_bind (ok_mono (law_written_ok hl k1 (by omega)) fun b hb => ok_ret ?_))
        rw [rot_dvd k1 dk] at hb
        dsimp only
        by_cases q : k = rtd w
        · rw [decide_eq_true q]
          exact hb.mpr (q ▸ h.rot)
        · rw [decide_eq_false q]
          cases b with
          | false => rfl
          | true => exact absurd (hb.mp rfl) (h.least k k1 (by omega))
      · rw [decide_eq_false (by omega)]
        refine ok_ff (ok_ret ?_)
        refine (decide_eq_false fun e => z ?_).symm
        subst e
        exact Nat.mod_eq_zero_of_dvd dv
    · rintro ⟨b, _⟩ hb
      dsimp only at hb ⊢
      rw [hb]
      by_cases q : k = rtd w
      · rw [decide_eq_true q]
        refine ok_tt (ok_ret ?_)
        rw [cutTo (by omega), tn_c, q]
        rfl
      · rw [decide_eq_false q]
        refine ok_ff (ok_ret ?_)
        show k + 1 ≤ rtd w
        omega
  · intro _ z
    exfalso
    omega
  · exact fun _ z => z.elim
  · rintro r rfl
    exact ok_ret rfl
/-! powers -/
theorem cyc_pow {z : Tx} (h : z ≠ []) {a : Nat} (ha : 1 ≤ a) (i : Nat) : cyc (List.replicate a z).flatten i = cyc z i := by
  have hp := List.length_pos_iff.mpr h
  unfold cyc
  have l : (List.replicate a z).flatten.length = a * z.length := rep_len z a
  have q : i % (a * z.length) < a * z.length := Nat.mod_lt _ (Nat.mul_pos ha hp)
  rw [l, ltr_reps q, Nat.mod_mod_of_dvd _ (Nat.dvd_mul_left _ _)]
theorem rt_pow {z : Tx} (h : z ≠ []) {a : Nat} (ha : 1 ≤ a) : rt (List.replicate a z).flatten = rt z := by
  have r := rtd_spec z
  have same : ∀ c, Rot (List.replicate a z).flatten c ↔ Rot z c := fun c => by
    unfold Rot
    simp only [cyc_pow h ha]
  have r2 : RL (List.replicate a z).flatten (rtd z) := ⟨r.pos, (same _).mpr r.rot, fun c c1 c2 k => r.least c c1 c2 ((same c).mp k)⟩
  have e := rl_uniq (rtd_spec (List.replicate a z).flatten) r2
  obtain ⟨_, _, _, le⟩ := rt_len h
  unfold rt
  rw [e]
  obtain ⟨b, rfl⟩ : ∃ b, a = b + 1 := ⟨a - 1, by omega⟩
  rw [List.replicate_succ, List.flatten_cons, List.take_append_of_le_length le]
def Pw (z w : Tx) : Prop := ∃ a, 1 ≤ a ∧ w = (List.replicate a z).flatten
theorem rep_app (z : Tx) (a b : Nat) : (List.replicate a z).flatten ++ (List.replicate b z).flatten = (List.replicate (a + b) z).flatten := by
  rw [← List.flatten_append, List.replicate_append_replicate]
theorem comm_pow : ∀ (n : Nat) (u v : Tx), u.length + v.length ≤ n → u ≠ [] → v ≠ [] → u ++ v = v ++ u → ∃ z, z ≠ [] ∧ Pw z u ∧ Pw z v
  | 0, u, v, hn, hu, _, _ => by
    have := List.length_pos_iff.mpr hu
    omega
  | n + 1, u, v, hn, hu, hv, h => by
    have pu := List.length_pos_iff.mpr hu
    have pv := List.length_pos_iff.mpr hv
    have one : ∀ x : Tx, Pw x x := fun x => ⟨1, Nat.le_refl _, by simp⟩
    have step : ∀ x y : Tx, x ≠ [] → x.length < y.length → x.length + y.length ≤ n + 1 → x ++ y = y ++ x → ∃ z, z ≠ [] ∧ Pw z x ∧ Pw z y := by
      intro x y hx lt le e
      have px := List.length_pos_iff.mpr hx
      have e1 : y.take x.length = x := by
        have := congrArg (List.take x.length) e
        rw [List.take_left, List.take_append_of_le_length (by omega)] at this
        exact this.symm
      obtain ⟨y', ey⟩ : ∃ y', y = x ++ y' := ⟨y.drop x.length, by rw [← e1, List.length_take, show min x.length y.length = x.length by omega]; rw [e1]; exact (List.take_append_drop _ _).symm.trans (by rw [e1])⟩
      subst ey
      have ly : (x ++ y').length = x.length + y'.length := List.length_append
      have e2 : x ++ y' = y' ++ x := by
        rw [List.append_assoc] at e
        exact List.append_cancel_left e
      have hy' : y' ≠ [] := fun z => by rw [z] at lt; simp at lt
      obtain ⟨z, z1, ⟨a, a1, ea⟩, ⟨b, b1, eb⟩⟩ := comm_pow n x y' (by omega) hx hy' e2
      exact ⟨z, z1, ⟨a, a1, ea⟩, a + b, by omega, by rw [← rep_app, ← ea, ← eb]⟩
    rcases Nat.lt_trichotomy u.length v.length with q | q | q
    · exact step u v hu q hn h
    · have e : u = v := (List.append_inj h q).1
      subst e
      exact ⟨u, hu, one u, one u⟩
    · obtain ⟨z, z1, z2, z3⟩ := step v u hv q (by omega) h.symm
      exact ⟨z, z1, z3, z2⟩
theorem rt_self {w : Tx} (h : w ≠ []) : Pw (rt w) w := by
  have hp := List.length_pos_iff.mpr h
  obtain ⟨l1, l2, dv, le⟩ := rt_len h
  have r := rtd_spec w
  have ml : w.length / rtd w * rtd w = w.length := Nat.div_mul_cancel dv
  refine ⟨w.length / rtd w, Nat.div_pos le r.pos, ?_⟩
  refine ltr_ext (by rw [rep_len, l2, ml]) fun i hi => ?_
  rw [ltr_reps (by rw [l2, ml]; exact hi), l2]
  unfold rt
  have lt := Nat.mod_lt i r.pos
  rw [(rot_dvd r.pos dv).mpr r.rot i hi]
  exact (ltr_take lt).symm
theorem commute_iff {u v : Tx} : u ++ v = v ++ u ↔ u = [] ∨ v = [] ∨ rt u = rt v := by
  constructor
  · intro h
    by_cases hu : u = []
    · exact .inl hu
    by_cases hv : v = []
    · exact .inr (.inl hv)
    obtain ⟨z, z1, ⟨a, a1, rfl⟩, ⟨b, b1, rfl⟩⟩ := comm_pow _ u v (Nat.le_refl _) hu hv h
    exact .inr (.inr (by rw [rt_pow z1 a1, rt_pow z1 b1]))
  · rintro (rfl | rfl | h)
    · simp
    · simp
    · by_cases hu : u = []
      · subst hu; simp
      by_cases hv : v = []
      · subst hv; simp
      obtain ⟨a, _, ea⟩ := rt_self hu
      obtain ⟨b, _, eb⟩ := rt_self hv
      rw [← h] at eb
      generalize rt u = z at ea eb
      subst ea
      subst eb
      rw [rep_app, rep_app, Nat.add_comm]
end G
namespace G
open PySem L2 M
noncomputable def expn (w : Tx) : Int := if w = [] then 0 else ((w.length / (rt w).length : Nat) : Int)
theorem exp_ok {w : Tx} (hw : WOk w) (hl : w.length ≤ 60) : m_exponent w = .ok (expn w) := by
  refine Ok.get (α := Int) ?_
  unfold m_exponent expn
  refine ok_bind (ok_eq (root_all hw hl) ?_)
  rcases empty_or w with ⟨rfl, e⟩ | ⟨e, e2, hp⟩
  · rw [rt_nil]
    exact ok_tt (ok_ret rfl)
  · have q := rt_ne e
    have q2 : List.isEmpty (rt w) = false := by
      rcases empty_or (rt w) with ⟨z, _⟩ | ⟨_, z, _⟩
      · exact absurd z q
      · exact z
    rw [q2, if_neg e]
    have := rt_len e
    refine ok_ff (ok_bind (ok_divI (by omega) (by omega) (ok_ret ?_)))
    exact (Int.natCast_ediv _ _).symm
theorem prim_ok {w : Tx} (hw : WOk w) (hl : w.length ≤ 60) : m_is_primitive w = .ok (decide (expn w = 1)) := by
  unfold m_is_primitive
  rw [exp_ok hw hl]
  rfl
theorem word_right_ok {w : Tx} (hw : WOk w) (hl : w.length ≤ 60) : m_law_word_right w = .ok true := by
  refine Ok.get (α := Bool) ?_
  unfold m_law_word_right
  refine ok_bind (ok_eq (law_root_all hl) (ok_bind (ok_ret (ok_bind (ok_mono (Q := fun s => s = expn w) ?_ ?_)))))
  · rcases empty_or w with ⟨rfl, e⟩ | ⟨e, e2, hp⟩
    · rw [rt_nil]
      exact ok_ret rfl
    · have q := rt_ne e
      have := rt_len e
      rw [decide_eq_false q]
      refine ok_nf (ok_bind (ok_divI (by omega) (by omega) (ok_ret ?_)))
      unfold expn
      rw [if_neg e]
      exact (Int.natCast_ediv _ _).symm
  rintro _ rfl
  dsimp only
  refine ok_bind (ok_eq (root_all hw hl) (ok_bind (ok_nt ?_)))
  rw [decide_eq_true rfl]
  refine ok_nt (ok_bind (ok_eq (root_all hw hl) (ok_ret ?_)))
  rw [decide_eq_true rfl]
  refine ok_ff (ok_bind (ok_eq (exp_ok hw hl) ?_))
  rw [decide_eq_true rfl]
  refine ok_ff (ok_bind (ok_eq (prim_ok hw hl) (ok_ret ?_)))
  simp
theorem comm_ok {u v : Tx} (hu : WOk u) (ul : u.length ≤ 60) (hv : WOk v) (vl : v.length ≤ 60) : m_commute u v = .ok (decide (u ++ v = v ++ u)) := by
  refine Ok.get (α := Bool) ?_
  unfold m_commute
  exact ok_bind (ok_eq (check_ok hu ul) (ok_bind (ok_eq (check_ok hv vl) (ok_bind (ok_bind (ok_xCat (by omega) (ok_bind (ok_xCat (by omega) (ok_ret (ok_ret rfl))))))))))
theorem pair_right_ok {u v : Tx} (hu : WOk u) (ul : u.length ≤ 60) (hv : WOk v) (vl : v.length ≤ 60) : m_law_pair_right u v = .ok true := by
  refine Ok.get (α := Bool) ?_
  unfold m_law_pair_right
  refine ok_bind (ok_eq (comm_ok hu ul hv vl) (ok_bind (ok_bind (ok_xCat (by omega) (ok_bind (ok_xCat (by omega) (ok_ret ?_)))))))
  rw [decide_eq_true (show decide (u ++ v = v ++ u) = decide (u ++ v = v ++ u) from rfl)]
  refine ok_ff (ok_bind (ok_eq (comm_ok hu ul hv vl) ?_))
  rw [decide_eq_true (show decide (u ++ v = v ++ u) = decide (u ++ v = v ++ u) from rfl)]
  refine ok_ff (ok_bind (ok_ret (ok_bind (ok_mono (Q := fun t => t = decide (u ++ v = v ++ u)) ?_ ?_))))
  · refine ok_ite (fun z => ok_ret ?_) (fun z => ?_)
    · rw [Bool.or_eq_true] at z
      refine (decide_eq_true (commute_iff.mpr ?_)).symm
      rcases z with z | z
      · exact .inl (of_decide_eq_true z)
      · exact .inr (.inl (of_decide_eq_true z))
    · rw [Bool.or_eq_false_iff] at z
      refine ok_bind (ok_eq (law_root_all ul) (ok_bind (ok_eq (law_root_all vl) (ok_ret ?_))))
      refine dec_congr ?_
      rw [commute_iff]
      constructor
      · exact fun h => .inr (.inr h)
      · rintro (h | h | h)
        · exact absurd h (of_decide_eq_false z.1)
        · exact absurd h (of_decide_eq_false z.2)
        · exact h
  · rintro _ rfl
    refine ok_ret ?_
    exact decide_eq_true rfl
/-! the root that several words share -/
open Classical in
noncomputable def shr : Tx → List Tx → Option Tx
  | s, [] => some s
  | s, w :: ws => if w = [] then shr s ws else if s = [] then shr (rt w) ws else if rt w = s then shr s ws else none
noncomputable def shD : Option Tx → PyData
  | none => PyData.none
  | some s => Dat.toD (α := Tx) s
def Words (ws : List Tx) : Prop := ∀ w ∈ ws, WOk w ∧ w.length ≤ 60
theorem checks_ok {ws : List Tx} (h : Words ws) : forS (fun (word : Tx) (s : Unit) => Res.bind (m_check_word word) fun (t3 : Unit) => .ok ()) ws () = .ok () := by
  induction ws with
  | nil => rfl
  | cons w ws ih =>
    have hw := h w List.mem_cons_self
    show Res.bind (Res.bind (m_check_word w) _) _ = _
    rw [check_ok hw.1 hw.2]
    exact ih fun x hx => h x (List.mem_cons_of_mem _ hx)
theorem checks_bad {ws rest : List Tx} {b : Tx} (h : Words ws) (hb : ¬ (b.length ≤ 60 ∧ WOk b)) : forS (fun (word : Tx) (s : Unit) => Res.bind (m_check_word word) fun (t3 : Unit) => .ok ()) (ws ++ b :: rest) () = .exc ⟨"BadWord", [("word", enc b)]⟩ := by
  induction ws with
  | nil =>
    show Res.bind (Res.bind (m_check_word b) _) _ = _
    rw [check_bad hb]
    rfl
  | cons w ws ih =>
    have hw := h w List.mem_cons_self
    show Res.bind (Res.bind (m_check_word w) _) _ = _
    rw [check_ok hw.1 hw.2]
    exact ih fun x hx => h x (List.mem_cons_of_mem _ hx)
theorem isE (w : Tx) : (!List.isEmpty w) = decide (w ≠ []) := by cases w <;> simp
theorem many_ok {ws : List Tx} (h : ws.length ≤ 20) : m_check_many ⟨ws⟩ 20 = .ok () := by
  unfold m_check_many
  rw [decide_eq_false (by show ¬ ((ws.length : Nat) : Int) > 20; omega)]
  rfl
theorem many_bad {ws : List Tx} (h : 20 < ws.length) : m_check_many ⟨ws⟩ 20 = .exc ⟨"TooMany", [("most", enc (20 : Int))]⟩ := by
  unfold m_check_many
  rw [decide_eq_true (by show ((ws.length : Nat) : Int) > 20; omega)]
  rfl
theorem common_ok {ws : List Tx} (h : Words ws) (hl : ws.length ≤ 20) : m_common_root ⟨ws⟩ = .ok (shD (shr [] ws)) := by
  refine Ok.get (α := PyData) ?_
  unfold m_common_root
  refine ok_bind (ok_eq (many_ok hl) (ok_bind (ok_eq (checks_ok h) (ok_bind (ok_ret ?_)))))
  refine ok_bind (ok_forRL (fun ys s => Words ys ∧ shr s ys = shr [] ws) (fun _ => False) (fun r => r = shD (shr [] ws)) ⟨h, rfl⟩ ?_ ?_ ?_ ?_)
  · rintro w ys s ⟨hw, e⟩
    have h0 := hw w List.mem_cons_self
    have h1 : Words ys := fun x hx => hw x (List.mem_cons_of_mem _ hx)
    dsimp only
    rw [isE, isE]
    by_cases z : w = []
    · rw [decide_eq_false (fun q : w ≠ [] => q z)]
      refine ok_ff (ok_bind (ok_ff (ok_ret (ok_ff (ok_ret ⟨h1, ?_⟩)))))
      rw [← e, shr, if_pos z]
    · rw [decide_eq_true (show w ≠ [] from z)]
      rw [shr, if_neg z] at e
      by_cases y : s = []
      · rw [decide_eq_false (fun q : s ≠ [] => q y)]
        refine ok_tt (ok_bind (ok_eq (root_all h0.1 h0.2) (ok_ret ⟨h1, ?_⟩)))
        rw [if_pos y] at e
        exact e
      · rw [decide_eq_true (show s ≠ [] from y)]
        rw [if_neg y] at e
        refine ok_ff (ok_bind (ok_tt (ok_bind (ok_eq (root_all h0.1 h0.2) (ok_ret ?_)))))
        by_cases x : rt w = s
        · rw [if_pos x] at e
          rw [decide_eq_true x]
          exact ok_ff (ok_ret ⟨h1, e⟩)
        · rw [if_neg x] at e
          rw [decide_eq_false x]
          refine ok_tt (ok_ret ?_)
          show _ = _
          rw [← e]
          rfl
  · rintro s ⟨_, e⟩
    refine ok_ret ?_
    rw [← e]
    rfl
  · exact fun _ z => z.elim
  · rintro r rfl
    exact ok_ret rfl
noncomputable def rts (ws : List Tx) : List Tx := (ws.filter fun w => !decide (w = [])).map rt
theorem rts_cons (w : Tx) (ws : List Tx) : rts (w :: ws) = if w = [] then rts ws else rt w :: rts ws := by
  unfold rts
  by_cases z : w = []
  · rw [if_pos z, List.filter_cons_of_neg (by simp [z])]
  · rw [if_neg z, List.filter_cons_of_pos (by simp [z]), List.map_cons]
theorem shr_on {s : Tx} (hs : s ≠ []) : ∀ {ws : List Tx}, ((∀ r ∈ rts ws, r = s) → shr s ws = some s) ∧ ((∃ r ∈ rts ws, r ≠ s) → shr s ws = none)
  | [] => ⟨fun _ => rfl, fun ⟨r, hr, _⟩ => by cases hr⟩
  | w :: ws => by
    rw [rts_cons, shr]
    by_cases z : w = []
    · rw [if_pos z, if_pos z]
      exact shr_on hs
    · rw [if_neg z, if_neg z, if_neg hs]
      by_cases y : rt w = s
      · rw [if_pos y]
        refine ⟨fun h => shr_on hs |>.1 fun r hr => h r (List.mem_cons_of_mem _ hr), fun ⟨r, hr, q⟩ => shr_on hs |>.2 ?_⟩
        rcases List.mem_cons.mp hr with e | e
        · exact absurd (e.trans y) q
        · exact ⟨r, e, q⟩
      · rw [if_neg y]
        exact ⟨fun h => absurd (h _ List.mem_cons_self) y, fun _ => rfl⟩
theorem shr_nil : ∀ {ws : List Tx}, (rts ws = [] → shr [] ws = some []) ∧ ∀ r rs, rts ws = r :: rs → (((∀ x ∈ rs, x = r) → shr [] ws = some r) ∧ ((∃ x ∈ rs, x ≠ r) → shr [] ws = none))
  | [] => ⟨fun _ => rfl, fun r rs h => by cases h⟩
  | w :: ws => by
    rw [rts_cons, shr]
    by_cases z : w = []
    · rw [if_pos z, if_pos z]
      exact shr_nil
    · rw [if_neg z, if_neg z, if_pos rfl]
      refine ⟨fun h => (by cases h), fun r rs h => ?_⟩
      obtain ⟨rfl, rfl⟩ := List.cons.inj h
      exact shr_on (rt_ne z)
theorem small_of {ws : List Tx} (h : Words ws) : ∀ t ∈ ws, ∀ c ∈ t, c < 128 := fun t ht => wok_small (h t ht).1
theorem lay_txts {xs : List Tx} (h : ∀ t ∈ xs, ∀ c ∈ t, c < 128) : PyData.canLay0 (Dat.toD xs) = true := by
  show PyData.canLayAll0 (xs.map Dat.toD) = true
  induction xs with
  | nil => rfl
  | cons x xs ih =>
    show (PyData.strOk (mkS x) && PyData.canLayAll0 (xs.map Dat.toD)) = true
    rw [ih fun t ht => h t (List.mem_cons_of_mem _ ht), strOk_small (h x List.mem_cons_self)]
    rfl
theorem eqD_tx {xs ys : List Tx} (h : ∀ t ∈ xs, ∀ c ∈ t, c < 128) (k : ∀ t ∈ ys, ∀ c ∈ t, c < 128) : eqD xs ys = .ok (decide (xs = ys)) := by
  unfold eqD
  rw [lay_txts h, lay_txts k]
  rfl
theorem neD_tx {xs ys : List Tx} (h : ∀ t ∈ xs, ∀ c ∈ t, c < 128) (k : ∀ t ∈ ys, ∀ c ∈ t, c < 128) : neD xs ys = .ok (!decide (xs = ys)) := by
  unfold neD
  rw [lay_txts h, lay_txts k]
  rfl
theorem rts_small {ws : List Tx} (h : Words ws) : ∀ t ∈ rts ws, ∀ c ∈ t, c < 128 := fun t ht => by
  unfold rts at ht
  obtain ⟨w, hw, rfl⟩ := List.mem_map.mp ht
  exact wok_small (rt_wok (h w (List.mem_filter.mp hw).1).1)
theorem rts_len (ws : List Tx) : (rts ws).length ≤ ws.length := by
  unfold rts
  rw [List.length_map]
  exact List.length_filter_le _ _
theorem shared_ok {ws : List Tx} (h : Words ws) (hl : ws.length ≤ 20) : m_law_shared ws = .ok (shD (shr [] ws)) := by
  refine Ok.get (α := PyData) ?_
  unfold m_law_shared
  have n0 : ∀ t ∈ ([] : List Tx), ∀ c ∈ t, c < 128 := fun t ht => by cases ht
  refine ok_bind (ok_lcR (p := fun w => !decide (w = [])) (g := rt) (by omega) (fun x _ => ok_ret rfl) (fun x hx => ok_bind (ok_noX (ok_eq (law_root_all (h x hx).2) (ok_ret rfl)))) ?_)
  rw [show (ws.filter fun w => !decide (w = [])).map rt = rts ws from rfl]
  have hr := rts_small h
  have rl := rts_len ws
  have sp := shr_nil (ws := ws)
  refine ok_bind (ok_eq (eqD_tx hr n0) ?_)
  generalize rts ws = rs at hr rl sp ⊢
  cases rs with
  | nil =>
    rw [decide_eq_true rfl, sp.1 rfl]
    exact ok_tt (ok_ret rfl)
  | cons r rs =>
    rw [decide_eq_false (by simp)]
    have s2 := sp.2 r rs rfl
    have sub : ∀ t ∈ (r :: rs).filter (fun own => !decide (own = r)), ∀ c ∈ t, c < 128 := fun t ht => hr t (List.mem_filter.mp ht).1
    refine ok_ff (ok_bind (ok_lcR (p := fun own => !decide (own = r)) (g := fun t => t) (by omega) (fun x _ => ok_bind (ok_bind (ok_lGetE (by omega) (by simp) fun _ => ok_ret (ok_ret rfl)))) (fun x _ => ok_ret rfl) ?_))
    rw [List.map_id']
    refine ok_bind (ok_eq (neD_tx sub n0) ?_)
    by_cases z : ∃ x ∈ rs, x ≠ r
    · obtain ⟨x, hx, q⟩ := z
      rw [decide_eq_false (fun e => ?_), s2.2 ⟨x, hx, q⟩]
      · exact ok_tt (ok_ret rfl)
      · have : x ∈ (r :: rs).filter (fun own => !decide (own = r)) := List.mem_filter.mpr ⟨List.mem_cons_of_mem _ hx, by simp [q]⟩
        rw [e] at this
        cases this
    · have al : ∀ x ∈ rs, x = r := fun x hx => Classical.byContradiction fun q => z ⟨x, hx, q⟩
      rw [decide_eq_true, s2.1 al]
      · exact ok_ff (ok_bind (ok_lGetE (by omega) (by simp) fun _ => ok_ret rfl))
      · refine List.filter_eq_nil_iff.mpr fun x hx => ?_
        rcases List.mem_cons.mp hx with e | e
        · simp [e]
        · simp [al x e]
theorem shr_wok {ws : List Tx} (h : Words ws) : ∀ {s : Tx}, WOk s → ∀ r, shr s ws = some r → WOk r := by
  induction ws with
  | nil => intro s hs r e; rw [shr] at e; obtain rfl := Option.some.inj e; exact hs
  | cons w ws ih =>
    intro s hs r e
    have h1 : Words ws := fun x hx => h x (List.mem_cons_of_mem _ hx)
    have h0 := (h w List.mem_cons_self).1
    rw [shr] at e
    split at e
    · exact ih h1 hs r e
    · split at e
      · exact ih h1 (rt_wok h0) r e
      · split at e
        · exact ih h1 hs r e
        · cases e
theorem shaped_none : SeqAt.shaped PyData.none = true := by
  unfold SeqAt.shaped
  rw [Bool.and_eq_true]
  exact ⟨by simp [PyData.canLay0], rfl⟩
theorem shaped_txt {b : Tx} (h : ∀ c ∈ b, c < 128) : SeqAt.shaped (Dat.toD (α := Tx) b) = true := by
  have a2 := strOk_small h
  unfold SeqAt.shaped
  rw [Bool.and_eq_true]
  refine ⟨?_, rfl⟩
  show PyData.strOk (mkS b) = true
  rw [a2]
theorem wok_nil : WOk ([] : Tx) := fun c hc => by cases hc
theorem list_right_ok {ws : List Tx} (h : Words ws) (hl : ws.length ≤ 20) : m_law_list_right ws = .ok true := by
  refine Ok.get (α := Bool) ?_
  unfold m_law_list_right
  refine ok_bind (ok_eq (shared_ok h hl) ?_)
  refine ok_bind (ok_forRL (fun ys _ => ∀ y ∈ ys, y = (SeqL.mk ws : SeqL Tx)) (fun _ => False) (fun _ => False) (fun y hy => by simpa using hy) ?_ ?_ ?_ ?_)
  · rintro y ys _ hy
    have e := hy y List.mem_cons_self
    have hy1 : ∀ z ∈ ys, z = (SeqL.mk ws : SeqL Tx) := fun z hz => hy z (List.mem_cons_of_mem _ hz)
    subst e
    have sh : SeqAt.shaped (shD (shr [] ws)) = true := by
      cases e : shr [] ws with
      | none => exact shaped_none
      | some r => exact shaped_txt (wok_small (shr_wok h wok_nil r e))
    refine ok_bind (ok_eq (common_ok h hl) (ok_bind (ok_bind (ok_eq (neD_tx (small_of h) (small_of h)) ?_))))
    rw [decide_eq_true rfl]
    refine ok_ff (ok_bind (ok_eq (common_ok h hl) (ok_bind (ok_eq (neV_same sh) (ok_ret (ok_ff ?_))))))
    have q : (isNonD (shD (shr [] ws)) && !isNonD (shD (shr [] ws))) = false := by cases isNonD (shD (shr [] ws)) <;> rfl
    rw [q]
    refine ok_ff (ok_bind (ok_mono (Q := fun s => s.1 = false) ?_ ?_))
    · cases e : shr [] ws with
      | none => exact ok_ff (ok_ret rfl)
      | some r =>
        refine ok_tt (ok_bind ?_)
        rw [e] at sh
        refine ok_ff (ok_bind (ok_eq (neV_same sh) (ok_ret (ok_ret rfl))))
    · rintro ⟨b, _⟩ hb
      dsimp only at hb ⊢
      rw [hb]
      exact ok_ff (ok_ret hy1)
  · exact fun _ _ => ok_ret rfl
  · exact fun _ z => z.elim
  · exact fun _ z => z.elim
end G
namespace G
open PySem L2 M
/-! what is refused -/
def Bad (b : Tx) : Prop := ¬ (b.length ≤ 60 ∧ WOk b) ∧ b.length ≤ 1000 ∧ ∀ c ∈ b, c < 128
def badD (t : Tx) : PyData := PyData.tuple [(Dat.toD (α := Tx) ([66, 97, 100, 87, 111, 114, 100] : Tx)), (Dat.toD (α := Tx) t), (Dat.toD (α := Bool) true)]
def manyD : PyData := PyData.tuple [(Dat.toD (α := Tx) ([84, 111, 111, 77, 97, 110, 121] : Tx)), (Dat.toD (α := Int) (20 : Int)), (Dat.toD (α := Bool) true)]
theorem badD_shaped {b : Tx} (h : Bad b) : SeqAt.shaped (badD b) = true := bad_shaped h.2.2
theorem manyD_shaped : SeqAt.shaped manyD = true := by
  have a1 : PyData.strOk (mkS ([84, 111, 111, 77, 97, 110, 121] : Tx)) = true := strOk_small (by decide)
  unfold SeqAt.shaped manyD
  rw [Bool.and_eq_true]
  refine ⟨?_, rfl⟩
  show (PyData.strOk (mkS ([84, 111, 111, 77, 97, 110, 121] : Tx)) && _) = true
  rw [a1]
  rfl
theorem eqV_same {d : PyData} (h : SeqAt.shaped d = true) : M.eqV d d = .ok true := by
  unfold M.eqV
  rw [h, PySem.SeqAt.eqv_refl d ((Bool.and_eq_true _ _).mp h).1]
  rfl
theorem exB {fs : List (Str × V)} : is_BadWord ⟨"BadWord", fs⟩ = .ok true ∧ is_WordError ⟨"BadWord", fs⟩ = .ok true ∧ is_ValueError ⟨"BadWord", fs⟩ = .ok true ∧ is_TooMany ⟨"BadWord", fs⟩ = .ok false := by
  refine ⟨?_, ?_, ?_, ?_⟩
  · unfold is_BadWord; rw [if_pos rfl]
  · unfold is_WordError; rw [if_pos rfl]
  · unfold is_ValueError; rw [if_pos rfl]
  · unfold is_TooMany; rw [if_pos rfl]
theorem nTM : ¬ (("TooMany" : Str) = "BadWord") := by decide +kernel
theorem exM {fs : List (Str × V)} : is_BadWord ⟨"TooMany", fs⟩ = .ok false ∧ is_WordError ⟨"TooMany", fs⟩ = .ok true ∧ is_ValueError ⟨"TooMany", fs⟩ = .ok true ∧ is_TooMany ⟨"TooMany", fs⟩ = .ok true := by
  refine ⟨?_, ?_, ?_, ?_⟩
  · unfold is_BadWord; rw [if_neg nTM, if_pos rfl]
  · unfold is_WordError; rw [if_neg nTM, if_pos rfl]
  · unfold is_ValueError; rw [if_neg nTM, if_pos rfl]
  · unfold is_TooMany; rw [if_neg nTM, if_pos rfl]
theorem g0 {x : Tx} {xs : List Tx} : lGet (x :: xs) (0 : Int) = .ok x := lGet_int (by omega) (by simp)
theorem g1 {x y : Tx} {xs : List Tx} : lGet (x :: y :: xs) (1 : Int) = .ok y := lGet_int (by omega) (by simp)
theorem told_one {b : Tx} (h : Bad b) {k : Int} (hk : k = 0 ∨ k = 1 ∨ k = 2) : m_law_told k [b] = .ok (badD b) := by
  obtain ⟨x1, x2, x3, x4⟩ := exB (fs := [("word", enc b)])
  have e := check_bad h.1
  have c1 : m_root b = .exc ⟨"BadWord", [("word", enc b)]⟩ := by unfold m_root; rw [e]; rfl
  have c2 : m_exponent b = .exc ⟨"BadWord", [("word", enc b)]⟩ := by unfold m_exponent; rw [c1]; rfl
  have c3 : m_is_primitive b = .exc ⟨"BadWord", [("word", enc b)]⟩ := by unfold m_is_primitive; rw [c2]; rfl
  have fw : fldT "BadWord" "word" ⟨"BadWord", [("word", enc b)]⟩ = .ok b := fld_text h.2.1
  unfold m_law_told
  rcases hk with rfl | rfl | rfl
  · rw [if_pos (by decide), g0, Res.bind_ok, c1]
    simp only [Res.bind_exc, Res.catch_exc, x1, if_true, x2, x3, x4, Res.bind_ok, Bool.not_true, Bool.false_eq_true, if_false, fw, Bool.not_false]
    rfl
  · rw [if_neg (by decide), if_pos (by decide), g0, Res.bind_ok, c2]
    simp only [Res.bind_exc, Res.catch_exc, x1, if_true, x2, x3, x4, Res.bind_ok, Bool.not_true, Bool.false_eq_true, if_false, fw, Bool.not_false]
    rfl
  · rw [if_neg (by decide), if_neg (by decide), if_pos (by decide), g0, Res.bind_ok, c3]
    simp only [Res.bind_exc, Res.catch_exc, x1, if_true, x2, x3, x4, Res.bind_ok, Bool.not_true, Bool.false_eq_true, if_false, fw, Bool.not_false]
    rfl
theorem told_pair {u v b : Tx} (h : Bad b) (hp : u = b ∨ (WOk u ∧ u.length ≤ 60 ∧ v = b)) : m_law_told 3 [u, v] = .ok (badD b) := by
  obtain ⟨x1, x2, x3, x4⟩ := exB (fs := [("word", enc b)])
  have e := check_bad h.1
  have c1 : m_commute u v = .exc ⟨"BadWord", [("word", enc b)]⟩ := by
    unfold m_commute
    rcases hp with rfl | ⟨hu, hul, rfl⟩
    · rw [e]; rfl
    · rw [check_ok hu hul, Res.bind_ok, e]; rfl
  have fw : fldT "BadWord" "word" ⟨"BadWord", [("word", enc b)]⟩ = .ok b := fld_text h.2.1
  unfold m_law_told
  rw [if_neg (by decide), if_neg (by decide), if_neg (by decide), if_pos (by decide), g0, Res.bind_ok, g1, Res.bind_ok, c1]
  simp only [Res.bind_exc, Res.catch_exc, x1, if_true, x2, x3, x4, Res.bind_ok, Bool.not_true, Bool.false_eq_true, if_false, fw, Bool.not_false]
  rfl
theorem told_list {ws rest : List Tx} {b : Tx} (hw : Words ws) (h : Bad b) (hl : (ws ++ b :: rest).length ≤ 20) : m_law_told 4 (ws ++ b :: rest) = .ok (badD b) := by
  obtain ⟨x1, x2, x3, x4⟩ := exB (fs := [("word", enc b)])
  have c1 : m_common_root ⟨ws ++ b :: rest⟩ = .exc ⟨"BadWord", [("word", enc b)]⟩ := by
    unfold m_common_root
    rw [many_ok hl, Res.bind_ok]
    show Res.bind (forS _ (ws ++ b :: rest) ()) _ = _
    rw [checks_bad hw h.1]
    rfl
  have fw : fldT "BadWord" "word" ⟨"BadWord", [("word", enc b)]⟩ = .ok b := fld_text h.2.1
  unfold m_law_told
  rw [if_neg (by decide), if_neg (by decide), if_neg (by decide), if_neg (by decide), c1]
  simp only [Res.bind_exc, Res.catch_exc, x1, if_true, x2, x3, x4, Res.bind_ok, Bool.not_true, Bool.false_eq_true, if_false, fw, Bool.not_false]
  rfl
theorem told_many {ws : List Tx} (h : 20 < ws.length) : m_law_told 4 ws = .ok manyD := by
  obtain ⟨x1, x2, x3, x4⟩ := exM (fs := [("most", enc (20 : Int))])
  have c1 : m_common_root ⟨ws⟩ = .exc ⟨"TooMany", [("most", enc (20 : Int))]⟩ := by
    unfold m_common_root
    rw [many_bad h]
    rfl
  have fw : fldI "TooMany" "most" ⟨"TooMany", [("most", enc (20 : Int))]⟩ = .ok 20 := fld_value
  unfold m_law_told
  rw [if_neg (by decide), if_neg (by decide), if_neg (by decide), if_neg (by decide), c1]
  simp only [Res.bind_exc, Res.catch_exc, x1, if_true, x2, x3, x4, Res.bind_ok, Bool.not_true, Bool.false_eq_true, if_false, fw, Bool.not_false]
  rfl
theorem flat_rep {x : Tx} (n : Nat) : (List.replicate n [x]).flatten = List.replicate n x := List.flatten_replicate_singleton
theorem refuses_ok {ws : List Tx} {at_ : Int} {w b : Tx} (hws : Words ws) (hn : ws.length ≤ 20) (ha : 0 ≤ at_ ∧ at_ < max 1 ((ws.length : Nat) : Int)) (hw : WOk w) (hwl : w.length ≤ 60) (h : Bad b) : m_law_refuses ws at_ w b = .ok true := by
  refine Ok.get (α := Bool) ?_
  have sh := badD_shaped h
  unfold m_law_refuses
  refine ok_bind (ok_ret (ok_bind (ok_rngR (by omega) (by omega) (ok_bind (ok_forR (fun _ _ => True) (fun _ => False) (fun _ => False) (by omega) trivial ?_ ?_ ?_ ?_)))))
  · rintro k _ _ _ _
    exact ok_bind (ok_eq (told_one h (by omega)) (ok_bind (ok_eq (neV_same sh) (ok_ff (ok_ret trivial)))))
  rotate_left 1
  · exact fun _ h => h.elim
  · exact fun _ h => h.elim
  rintro _ -
  refine ok_bind (ok_forRL (fun ys _ => ∀ y ∈ ys, m_law_told 3 y = .ok (badD b)) (fun _ => False) (fun _ => False) ?_ ?_ ?_ ?_ ?_)
  · intro y hy
    simp only [List.mem_cons, List.not_mem_nil, or_false] at hy
    rcases hy with rfl | rfl | rfl
    · exact told_pair h (.inl rfl)
    · exact told_pair h (.inr ⟨hw, hwl, rfl⟩)
    · exact told_pair h (.inl rfl)
  · rintro y ys _ hy
    exact ok_bind (ok_eq (hy y List.mem_cons_self) (ok_bind (ok_eq (neV_same sh) (ok_ff (ok_ret fun z hz => hy z (List.mem_cons_of_mem _ hz))))))
  rotate_left 1
  · exact fun _ h => h.elim
  · exact fun _ h => h.elim
  rintro _ -
  rw [cutTo ha.1, cutFrom (by omega)]
  have l1 : (ws.take at_.toNat).length ≤ at_.toNat := by rw [List.length_take]; omega
  have l2 : (ws.drop (at_ + 1).toNat).length = ws.length - (at_.toNat + 1) := by rw [List.length_drop]; omega
  have l3 : (ws.take at_.toNat).length ≤ ws.length := by rw [List.length_take]; omega
  refine ok_bind (ok_lCat (by simp; omega) (ok_bind (ok_lCat (by simp; omega) (ok_bind (ok_lRep (by omega) (by omega) (by simp) (ok_bind (ok_lCat (by rw [flat_rep]; simp) ?_)))))))
  rw [flat_rep]
  have wt : Words (ws.take at_.toNat) := fun x hx => hws x (List.mem_of_mem_take hx)
  refine ok_bind (ok_forRL (fun ys _ => ∀ y ∈ ys, m_law_told 4 y = .ok (badD b)) (fun _ => False) (fun _ => False) ?_ ?_ ?_ ?_ ?_)
  · intro y hy
    simp only [List.mem_cons, List.not_mem_nil, or_false] at hy
    rcases hy with rfl | rfl | rfl
    · rw [List.append_assoc]
      refine told_list wt h ?_
      rw [List.length_append]
      show _ + (b :: ws.drop (at_ + 1).toNat).length ≤ 20
      rw [List.length_cons]
      rw [List.length_take] at l1 l3 ⊢
      omega
    · refine told_list (fun x hx => ?_) h (by simp)
      rw [(List.mem_replicate.mp hx).2]
      exact ⟨hw, hwl⟩
    · exact told_list (ws := []) (fun x hx => by cases hx) h (by simp)
  · rintro y ys _ hy
    exact ok_bind (ok_eq (hy y List.mem_cons_self) (ok_bind (ok_eq (neV_same sh) (ok_ff (ok_ret fun z hz => hy z (List.mem_cons_of_mem _ hz))))))
  rotate_left 1
  · exact fun _ h => h.elim
  · exact fun _ h => h.elim
  rintro _ -
  refine ok_bind (ok_lRep (by omega) (by omega) (by simp) ?_)
  rw [flat_rep]
  refine ok_bind (ok_lCat (by simp) (ok_bind (ok_eq (told_many (by simp)) (ok_bind (ok_eq (eqV_same manyD_shaped) (ok_ret rfl))))))
theorem refuses_first_ok {w a b : Tx} (hw : WOk w) (hwl : w.length ≤ 60) (ha : Bad a) (hb : Bad b) : m_law_refuses_first w a b = .ok true := by
  refine Ok.get (α := Bool) ?_
  unfold m_law_refuses_first
  refine ok_bind (ok_forRL (fun ys _ => ∀ y ∈ ys, ∃ c d, Bad c ∧ Bad d ∧ y = [c, d]) (fun _ => False) (fun _ => False) ?_ ?_ ?_ ?_ ?_)
  · intro y hy
    simp only [List.mem_cons, List.not_mem_nil, or_false] at hy
    rcases hy with rfl | rfl
    · exact ⟨_, _, ha, hb, rfl⟩
    · exact ⟨_, _, hb, ha, rfl⟩
  · rintro y ys _ hy
    obtain ⟨c, d, hc, hd, rfl⟩ := hy y List.mem_cons_self
    have sh := badD_shaped hc
    have t4 : m_law_told 4 [c, d] = .ok (badD c) := told_list (ws := []) (fun x hx => by cases hx) hc (by simp)
    have t5 : m_law_told 4 [w, c, [], d] = .ok (badD c) := told_list (ws := [w]) (fun x hx => by
      have e : x = w := by simpa using hx
      rw [e]
      exact ⟨hw, hwl⟩) hc (by simp)
    refine ok_bind (ok_eq g0 (ok_bind (ok_ret (ok_bind (ok_bind (ok_eq (told_pair hc (.inl rfl)) (ok_bind (ok_eq (neV_same sh) (ok_ff (ok_bind (ok_eq t4 (ok_bind (ok_eq (neV_same sh) (ok_ret (ok_ff ?_)))))))))))))))
    exact ok_bind (ok_eq g0 (ok_bind (ok_eq g1 (ok_bind (ok_eq t5 (ok_bind (ok_eq (neV_same sh) (ok_ff (ok_ret fun z hz => hy z (List.mem_cons_of_mem _ hz))))))))))
  rotate_left 1
  · exact fun _ h => h.elim
  · exact fun _ h => h.elim
  rintro _ -
  refine ok_bind (ok_lRep (by omega) (by omega) (by simp) ?_)
  rw [flat_rep]
  exact ok_bind (ok_eq (told_many (by simp)) (ok_bind (ok_eq (eqV_same manyD_shaped) (ok_ret rfl))))
end G
namespace G
open PySem L2 M
theorem pos_of {w : Tx} (h : w ≠ []) : 0 < w.length := List.length_pos_iff.mpr h
theorem abc_at : ∀ k : Fin 26, abc.getD k.val 0 = 97 + k.val := by decide +kernel
theorem sz {x : Int} (h : x < 1000000000000) : x < 2 ^ 1000 := Int.lt_trans h (by decide +kernel)
theorem times_ok {L d : Int} {c : Int} (h0 : 0 ≤ L) (hc : 0 ≤ c) (hd : 0 ≤ d) (h : d < c / max 1 L) : L * (1 + d) ≤ c := by
  have hq : 0 < max 1 L := by omega
  have h1 := (Int.le_ediv_iff_mul_le hq).mp (show d + 1 ≤ c / max 1 L by omega)
  have h2 : L * (1 + d) ≤ max 1 L * (1 + d) := Int.mul_le_mul_of_nonneg_right (by omega) (by omega)
  rw [Int.mul_comm, Int.add_comm] at h1
  omega
theorem times_nat {n : Nat} {d c : Int} (hd : 0 ≤ d) (h : (n : Int) * (1 + d) ≤ c) : ((n * (1 + d).toNat : Nat) : Int) ≤ c := by
  rw [Int.natCast_mul, Int.toNat_of_nonneg (by omega)]
  exact h
theorem reps_le {n : Nat} {d c : Int} (h0 : 0 ≤ d) (h : d ≤ c / max 1 (n : Int)) : ((n * d.toNat : Nat) : Int) ≤ c := by
  have hq : (0 : Int) < max 1 (n : Int) := by omega
  have h1 := (Int.le_ediv_iff_mul_le hq).mp h
  have h2 : (n : Int) * d ≤ max 1 (n : Int) * d := Int.mul_le_mul_of_nonneg_right (by omega) h0
  rw [Int.natCast_mul, Int.toNat_of_nonneg h0]
  rw [Int.mul_comm] at h1
  omega
theorem first_Ok {p : List Int} {kinds : Tx} (h : PoolOk p) (hw : WOk kinds) (hn : 0 < kinds.length ∧ kinds.length ≤ 1000) : Ok (m_law_first p kinds) fun r => ∃ b w, r.1 = [b, w] ∧ WOk b ∧ b.length ≤ 30 ∧ WOk w ∧ w.length ≤ 60 ∧ PoolOk r.2 := by
  unfold m_law_first
  refine ok_bind (ok_mono (pdraw_Ok h (by omega) ⟨by omega, sz (by omega)⟩) ?_)
  rintro ⟨d1, p1⟩ ⟨a1, b1, h1⟩
  dsimp only at a1 b1 h1 ⊢
  refine ok_bind (ok_mono (pword_Ok h1 (by omega) hw hn (by omega)) ?_)
  rintro ⟨base, p2⟩ ⟨l2, w2, h2⟩
  dsimp only at l2 w2 h2 ⊢
  refine ok_bind (ok_divI (by omega) (by omega) ?_)
  have q0 : 0 < 12 / max 1 ((base.length : Nat) : Int) := (Int.le_ediv_iff_mul_le (by omega)).mpr (by omega)
  have q1 : 12 / max 1 ((base.length : Nat) : Int) ≤ 12 := Int.ediv_le_self _ (by omega)
  refine ok_bind (ok_mono (pdraw_Ok h2 (by omega) ⟨q0, sz (by omega)⟩) ?_)
  rintro ⟨d3, p3⟩ ⟨a3, b3, h3⟩
  dsimp only at a3 b3 h3 ⊢
  have tl := times_nat a3 (times_ok (by omega) (by omega) a3 b3)
  refine ok_bind (ok_ret (ok_bind (ok_xRep (by omega) (by omega) (by omega) ?_)))
  have rw1 : WOk (List.replicate (1 + d3).toNat base).flatten := rep_wok w2 _
  have rl1 : (List.replicate (1 + d3).toNat base).flatten.length ≤ 60 := by rw [rep_len, Nat.mul_comm]; omega
  generalize (List.replicate (1 + d3).toNat base).flatten = w0 at rw1 rl1 ⊢
  refine ok_bind (ok_mono (pdraw_Ok h3 (by omega) ⟨by omega, sz (by omega)⟩) ?_)
  rintro ⟨d4, p4⟩ ⟨a4, b4, h4⟩
  dsimp only at a4 b4 h4 ⊢
  refine ok_bind (ok_mono (Q := fun s : List Int × Tx × Tx => PoolOk s.1 ∧ WOk s.2.1 ∧ s.2.1.length ≤ 30 ∧ WOk s.2.2 ∧ s.2.2.length ≤ 60) ?_ ?_)
  · refine ok_ite (fun _ => ?_) (fun _ => ok_ret ⟨h4, w2, by dsimp only; omega, rw1, rl1⟩)
    refine ok_bind (ok_mono (pdraw_Ok h4 (by omega) ⟨by omega, sz (by omega)⟩) ?_)
    rintro ⟨d5, p5⟩ ⟨a5, b5, h5⟩
    dsimp only at a5 b5 h5 ⊢
    refine ok_bind (ok_ret (ok_bind (ok_mono (pword_Ok h5 (by omega) hw hn (by omega)) ?_)))
    rintro ⟨base2, p6⟩ ⟨l6, w6, h6⟩
    dsimp only at l6 w6 h6 ⊢
    refine ok_bind (ok_xRep (by omega) (by omega) (by rw [show (60 : Int).toNat = 60 from rfl]; omega) ?_)
    refine ok_bind (ok_mono (pdraw_Ok h6 (by omega) ⟨by omega, sz (by omega)⟩) ?_)
    rintro ⟨d7, p7⟩ ⟨a7, b7, h7⟩
    dsimp only at a7 b7 h7 ⊢
    refine ok_bind (ok_mono (pdraw_Ok h7 (by omega) ⟨by omega, sz (by omega)⟩) ?_)
    rintro ⟨d8, p8⟩ ⟨a8, b8, h8⟩
    dsimp only at a8 b8 h8 ⊢
    have pr : 0 ≤ d7 * d8 ∧ d7 * d8 ≤ 60 := by
      have : d7 = 0 ∨ d7 = 1 := by omega
      rcases this with rfl | rfl <;> omega
    refine ok_bind (ok_mulI (by omega) (by omega) (ok_bind (ok_ret (ok_bind (ok_ret (ok_ret ⟨h8, w6, by dsimp only; omega, ?_, ?_⟩))))))
    · dsimp only
      rw [cutTo (by omega)]
      exact wok_take (rep_wok w6 _) _
    · dsimp only
      rw [cutTo (by omega), List.length_take]
      omega
  rintro ⟨p5, b1, w1⟩ ⟨h5, bw, bl, ww, wl⟩
  dsimp only at h5 bw bl ww wl ⊢
  refine ok_bind (ok_mono (Q := fun s : Bool × List Int => PoolOk s.2 ∧ (s.1 = true → 0 < w1.length)) ?_ ?_)
  · refine ok_ite (fun e => ?_) (fun _ => ok_ret ⟨h5, fun z => by cases z⟩)
    have ne : w1 ≠ [] := by simpa using e
    refine ok_bind (ok_mono (pdraw_Ok h5 (by omega) ⟨by omega, sz (by omega)⟩) fun r hr => ok_ret ⟨hr.2.2, fun _ => pos_of ne⟩)
  rintro ⟨b, p6⟩ ⟨h6, hb⟩
  dsimp only at h6 hb ⊢
  refine ok_bind (ok_mono (Q := fun s : List Int × Tx => PoolOk s.1 ∧ WOk s.2 ∧ s.2.length ≤ 60) ?_ ?_)
  · refine ok_ite (fun e => ?_) (fun _ => ok_ret ⟨h6, ww, wl⟩)
    have lp := hb e
    refine ok_bind (ok_mono (pdraw_Ok h6 (by omega) ⟨by omega, sz (by omega)⟩) ?_)
    rintro ⟨d7, p7⟩ ⟨a7, b7, h7⟩
    dsimp only at a7 b7 h7 ⊢
    refine ok_bind (ok_mono (pdraw_Ok h7 (by omega) ⟨by omega, sz (by omega)⟩) ?_)
    rintro ⟨d8, p8⟩ ⟨a8, b8, h8⟩
    dsimp only at a8 b8 h8 ⊢
    refine ok_bind (one_get a8 b8 fun c hc => ?_)
    rw [cutTo (by omega), cutFrom (by omega)]
    have t1 : (w1.take d7.toNat).length = d7.toNat := by rw [List.length_take]; omega
    have t2 : (w1.drop (d7 + 1).toNat).length = w1.length - (d7.toNat + 1) := by rw [List.length_drop]; omega
    refine ok_bind (ok_bind (ok_xCat (by simp; omega) (ok_xCat (by simp; omega) (ok_ret ⟨h8, ?_, ?_⟩))))
    · exact wok_app (wok_app (wok_take ww _) fun x hx => by
        have e : x = c := by simpa using hx
        rw [e]
        exact hw c hc) (wok_drop ww _)
    · dsimp only
      rw [List.length_append, List.length_append, t1, t2]
      simp
      omega
  rintro ⟨p7, w7⟩ ⟨h7, ww7, wl7⟩
  exact ok_ret ⟨b1, w7, rfl, bw, bl, ww7, wl7, h7⟩
theorem second_Ok {p : List Int} {kinds b w : Tx} (h : PoolOk p) (hk : WOk kinds) (hn : 0 < kinds.length ∧ kinds.length ≤ 1000) (hb : WOk b) (bl : b.length ≤ 30) (hw : WOk w) (hl : w.length ≤ 60) : Ok (m_law_second p kinds b w) fun r => WOk r.1 ∧ r.1.length ≤ 60 ∧ PoolOk r.2 := by
  unfold m_law_second
  refine ok_bind (ok_mono (pdraw_Ok h (by omega) ⟨by omega, sz (by omega)⟩) ?_)
  rintro ⟨d1, p1⟩ ⟨a1, b1, h1⟩
  dsimp only at a1 b1 h1 ⊢
  refine ok_ite (fun _ => ?_) (fun _ => ok_ite (fun _ => ?_) (fun _ => ok_ite (fun _ => ok_ret ⟨wok_nil, by simp, h1⟩) (fun _ => ok_ret ⟨hw, hl, h1⟩)))
  · refine ok_bind (ok_bind (ok_divI (by omega) (by omega) (ok_ret ?_)))
    have q0 : 0 ≤ 60 / max 1 ((b.length : Nat) : Int) := Int.ediv_nonneg (by omega) (by omega)
    have q1 : 60 / max 1 ((b.length : Nat) : Int) ≤ 60 := Int.ediv_le_self _ (by omega)
    refine ok_bind (ok_mono (pdraw_Ok h1 (by omega) ⟨by omega, sz (by omega)⟩) ?_)
    rintro ⟨d2, p2⟩ ⟨a2, b2, h2⟩
    dsimp only at a2 b2 h2 ⊢
    have tl := reps_le a2 (show d2 ≤ 60 / max 1 ((b.length : Nat) : Int) by omega)
    exact ok_bind (ok_xRep (by omega) (by omega) (by omega) (ok_ret ⟨rep_wok hb _, by dsimp only; rw [rep_len, Nat.mul_comm]; omega, h2⟩))
  · refine ok_bind (ok_mono (pdraw_Ok h1 (by omega) ⟨by omega, sz (by omega)⟩) ?_)
    rintro ⟨d2, p2⟩ ⟨a2, b2, h2⟩
    dsimp only at a2 b2 h2 ⊢
    refine ok_bind (ok_mono (pword_Ok h2 (by omega) hk hn (by omega)) ?_)
    rintro ⟨v, p3⟩ ⟨l3, w3, h3⟩
    dsimp only at l3 w3 h3 ⊢
    exact ok_ret ⟨w3, by dsimp only; omega, h3⟩
theorem list_Ok {p : List Int} {kinds b : Tx} (h : PoolOk p) (hk : WOk kinds) (hn : 0 < kinds.length ∧ kinds.length ≤ 1000) (hb : WOk b) (bl : b.length ≤ 30) : Ok (m_law_list p kinds b) fun r => Words r.1 ∧ r.1.length ≤ 20 ∧ PoolOk r.2 := by
  unfold m_law_list
  refine ok_bind (ok_mono (pdraw_Ok h (by omega) ⟨by omega, sz (by omega)⟩) ?_)
  rintro ⟨d1, p1⟩ ⟨a1, b1, h1⟩
  dsimp only at a1 b1 h1 ⊢
  refine ok_bind (ok_mono (pdraw_Ok h1 (by omega) ⟨by omega, sz (by omega)⟩) ?_)
  rintro ⟨d2, p2⟩ ⟨a2, b2, h2⟩
  dsimp only at a2 b2 h2 ⊢
  refine ok_bind (ok_mono (Q := fun c : Int => 0 ≤ c ∧ c ≤ 20) (ok_ite (fun _ => ok_bind (ok_ret (ok_ret (by omega)))) (fun _ => ok_ret (by omega))) ?_)
  rintro c ⟨c0, c1⟩
  have q0 : 0 ≤ 60 / max 1 ((b.length : Nat) : Int) := Int.ediv_nonneg (by omega) (by omega)
  refine ok_bind (ok_bind (ok_ret (ok_bind (ok_bind (ok_divI (by omega) (by omega) (ok_ret (ok_ret ?_)))))))
  refine ok_bind (ok_rngR (by omega) (by omega) ?_)
  have rl : (rng 0 c).length = c.toNat := by rw [rng_len]; omega
  refine ok_bind (ok_lcS PoolOk (fun x : Tx => WOk x ∧ x.length ≤ 60) (by omega) h2 (fun x hx s hs => ?_) ?_)
  · refine ok_bind (ok_noX (ok_mono (pdraw_Ok hs (by omega) ⟨by omega, sz (by omega)⟩) ?_))
    rintro ⟨d3, p3⟩ ⟨a3, b3, h3⟩
    dsimp only at a3 b3 h3 ⊢
    have tl := reps_le a3 (show d3 ≤ 60 / max 1 ((b.length : Nat) : Int) by omega)
    exact ok_bind (ok_xRep (by omega) (by omega) (by omega) (ok_ret ⟨⟨rep_wok hb _, by rw [rep_len, Nat.mul_comm]; omega⟩, h3⟩))
  rintro ⟨ws, p3⟩ wl wr h3
  dsimp only at wl wr h3 ⊢
  rw [rl] at wl
  refine ok_bind (ok_mono (Q := fun s : Bool × List Int => PoolOk s.2 ∧ (s.1 = true → 0 < c)) ?_ ?_)
  · refine ok_ite (fun e => ?_) (fun _ => ok_ret ⟨h3, fun z => by cases z⟩)
    have := of_decide_eq_true e
    exact ok_bind (ok_mono (pdraw_Ok h3 (by omega) ⟨by omega, sz (by omega)⟩) fun r hr => ok_ret ⟨hr.2.2, fun _ => this⟩)
  rintro ⟨x, p4⟩ ⟨h4, hx⟩
  dsimp only at h4 hx ⊢
  refine ok_bind (ok_mono (Q := fun s : List Int × List Tx => PoolOk s.1 ∧ Words s.2 ∧ s.2.length ≤ 20) ?_ ?_)
  · refine ok_ite (fun e => ?_) (fun _ => ok_ret ⟨h4, wr, by dsimp only; omega⟩)
    have cp := hx e
    refine ok_bind (ok_mono (pdraw_Ok h4 (by omega) ⟨cp, sz (by omega)⟩) ?_)
    rintro ⟨d5, p5⟩ ⟨a5, b5, h5⟩
    dsimp only at a5 b5 h5 ⊢
    refine ok_bind (ok_mono (pdraw_Ok h5 (by omega) ⟨by omega, sz (by omega)⟩) ?_)
    rintro ⟨d6, p6⟩ ⟨a6, b6, h6⟩
    dsimp only at a6 b6 h6 ⊢
    refine ok_bind (ok_mono (pword_Ok h6 (by omega) hk hn (by omega)) ?_)
    rintro ⟨v, p7⟩ ⟨l7, w7, h7⟩
    dsimp only at l7 w7 h7 ⊢
    refine ok_bind (ok_lSet (by omega) (by omega) (ok_ret ⟨h7, fun y hy => ?_, by rw [List.length_set]; omega⟩))
    rcases List.mem_or_eq_of_mem_set hy with e | e
    · exact wr y e
    · rw [e]
      exact ⟨w7, by omega⟩
  rintro ⟨p5, ws2⟩ ⟨h5, hw5, hl5⟩
  exact ok_ret ⟨hw5, hl5, h5⟩
theorem law_all (ns : List Int) (h : ns.length ≤ 63) : m_law ⟨ns⟩ = .ok true := by
  refine Ok.get (α := Bool) ?_
  unfold m_law
  rw [cutTo (by omega)]
  refine ok_bind (ok_mono (pool_Ok _ (by rw [List.length_take]; show min (63 : Int).toNat _ ≤ 63; omega)) ?_)
  intro p0 h0
  refine ok_bind (ok_ret ?_)
  refine ok_bind (ok_mono (pdraw_Ok h0 (by omega) ⟨by omega, sz (by omega)⟩) ?_)
  rintro ⟨d1, p1⟩ ⟨a1, b1, h1⟩
  dsimp only at a1 b1 h1 ⊢
  refine ok_bind (ok_ret (ok_bind (ok_rngR (by omega) (by omega) ?_)))
  have rl : (rng 0 (1 + d1)).length = (1 + d1).toNat := by rw [rng_len]; omega
  refine ok_bind (ok_lcS PoolOk (fun x : Int => 0 ≤ x ∧ x < 26) (by omega) h1 (fun x hx s hs => ?_) ?_)
  · exact ok_bind (ok_noX (ok_mono (pdraw_Ok hs (by omega) ⟨by omega, sz (by omega)⟩) fun r hr => ok_ret ⟨⟨hr.1, hr.2.1⟩, hr.2.2⟩))
  rintro ⟨sorts, p2⟩ sl sr h2
  dsimp only at sl sr h2 ⊢
  refine ok_bind (ok_mono (Q := fun ys : List Tx => ys.length = sorts.length ∧ ∀ t ∈ ys, ∃ c, (97 ≤ c ∧ c ≤ 122) ∧ t = [c]) ?_ ?_)
  · refine ok_lcM (g := fun i : Int => [abc.getD i.toNat 0]) (by omega) (fun x hx => ?_) ⟨List.length_map _, fun t ht => ?_⟩
    · have := sr x hx
      exact ok_bind (ok_xGet this.1 (by show x < 26; omega) (ok_ret rfl))
    · obtain ⟨x, hx, rfl⟩ := List.mem_map.mp ht
      have hx2 := sr x hx
      have e := abc_at ⟨x.toNat, by omega⟩
      dsimp only at e
      exact ⟨_, ⟨by omega, by omega⟩, rfl⟩
  rintro ys ⟨yl, yr⟩
  obtain ⟨j1, j2, j3⟩ := ones_join yr
  refine ok_bind (ok_lJoin (by simp; omega) ?_)
  generalize joinT [] ys = kinds at j2 j3 ⊢
  have kw : WOk kinds := j3
  have kl : 0 < kinds.length ∧ kinds.length ≤ 1000 := by omega
  refine ok_bind (ok_mono (first_Ok h2 kw kl) ?_)
  rintro ⟨r, p3⟩ ⟨bs, w, rfl, bw, bl, hw, hl, h3⟩
  dsimp only at bw bl hw hl h3 ⊢
  refine ok_bind (ok_eq g0 (ok_bind (ok_eq g1 ?_)))
  refine ok_bind (ok_mono (second_Ok h3 kw kl bw bl hw hl) ?_)
  rintro ⟨second, p4⟩ ⟨sw, sl', h4⟩
  dsimp only at sw sl' h4 ⊢
  refine ok_bind (ok_mono (list_Ok h4 kw kl bw bl) ?_)
  rintro ⟨ws, p5⟩ ⟨wsw, wsl, h5⟩
  dsimp only at wsw wsl h5 ⊢
  obtain ⟨k0, hk0, gk⟩ : ∃ c, (97 ≤ c ∧ c ≤ 122) ∧ xGet kinds 0 = .ok [c] := by
    obtain ⟨t, et, c, hc, rfl⟩ := one_get (w := kinds) (i := 0) (P := fun t => ∃ c, (97 ≤ c ∧ c ≤ 122) ∧ t = [c]) (by omega) (by omega) fun c hc => ⟨c, kw c hc, rfl⟩
    exact ⟨c, hc, et⟩
  have one : ∀ {c : Nat}, (97 ≤ c ∧ c ≤ 122) → WOk [c] := fun {c} h x hx => by
    have e : x = c := by simpa using hx
    rw [e]; exact h
  refine ok_bind (ok_bind (ok_bind (ok_bind (ok_eq gk (ok_xCat (by simp; omega) (ok_xRep (by omega) (by omega) (by simp; omega) (ok_bind (ok_ret (ok_bind (ok_ret (ok_ret ?_)))))))))))
  rw [cutTo (by omega)]
  have fw : WOk ((List.replicate (60 : Int).toNat (bs ++ [k0])).flatten.take (60 : Int).toNat) := wok_take (rep_wok (wok_app bw (one hk0)) _) _
  have fl : ((List.replicate (60 : Int).toNat (bs ++ [k0])).flatten.take (60 : Int).toNat).length = 60 := by
    rw [List.length_take, rep_len, List.length_append]
    show min 60 (60 * (bs.length + 1)) = 60
    omega
  generalize (List.replicate (60 : Int).toNat (bs ++ [k0])).flatten.take (60 : Int).toNat = full at fw fl ⊢
  refine ok_bind (ok_eq gk ?_)
  refine ok_bind (ok_mono (Q := fun t : Tx => ∃ c, (97 ≤ c ∧ c ≤ 122) ∧ t = [c]) ?_ ?_)
  · refine ok_bind (ok_bind (ok_bind (ok_bind (ok_lGetE (by omega) (by omega) fun hh => ok_ret (ok_ret (ok_modI (by omega) ?_))))))
    generalize sorts[(0 : Int).toNat] = s0
    have m0 := Int.emod_nonneg (s0 + 1) (b := 26) (by omega)
    have m1 := Int.emod_lt_of_pos (s0 + 1) (b := 26) (by omega)
    exact abc_Ok m0 m1 fun c c1 c2 => ⟨c, ⟨c1, c2⟩, rfl⟩
  rintro t2 ⟨k1, hk1, rfl⟩
  have n0 : WOk ([] : Tx) := wok_nil
  refine ok_bind (ok_ret (ok_bind (ok_lCat (by simp) ?_)))
  refine ok_bind (ok_bind (ok_eq gk (ok_xRep (by omega) (by omega) (by simp) ?_)))
  have k2 : WOk (List.replicate (2 : Int).toNat ([k0] : Tx)).flatten ∧ (List.replicate (2 : Int).toNat ([k0] : Tx)).flatten.length ≤ 60 := ⟨rep_wok (one hk0) _, by rw [rep_len]; show 2 * 1 ≤ 60; omega⟩
  generalize (List.replicate (2 : Int).toNat ([k0] : Tx)).flatten = kk at k2 ⊢
  refine ok_bind (ok_lCat (by simp) ?_)
  have tried : Words ([w, second, full, ([] : Tx)] ++ [[k0], [k1]] ++ [kk, w]) := by
    intro t ht
    simp only [List.cons_append, List.nil_append, List.mem_cons, List.not_mem_nil, or_false] at ht
    rcases ht with rfl | rfl | rfl | rfl | rfl | rfl | rfl | rfl
    · exact ⟨hw, hl⟩
    · exact ⟨sw, sl'⟩
    · exact ⟨fw, by omega⟩
    · exact ⟨n0, by simp⟩
    · exact ⟨one hk0, by simp⟩
    · exact ⟨one hk1, by simp⟩
    · exact k2
    · exact ⟨hw, hl⟩
  generalize [w, second, full, ([] : Tx)] ++ [[k0], [k1]] ++ [kk, w] = tr at tried ⊢
  refine ok_bind (ok_forRL (fun ys _ => Words ys) (fun _ => False) (fun _ => False) tried ?_ ?_ ?_ ?_)
  · rintro x ys _ hx
    have hx0 := hx x List.mem_cons_self
    exact ok_bind (ok_eq (word_right_ok hx0.1 hx0.2) (ok_nt (ok_ret fun t ht => hx t (List.mem_cons_of_mem _ ht))))
  rotate_left 1
  · exact fun _ h => h.elim
  · exact fun _ h => h.elim
  rintro _ -
  refine ok_bind (ok_forRL (fun ys _ => Words ys) (fun _ => False) (fun _ => False) tried ?_ ?_ ?_ ?_)
  · rintro x ys _ hx
    have hx0 := hx x List.mem_cons_self
    exact ok_bind (ok_bind (ok_eq (pair_right_ok hw hl hx0.1 hx0.2) (ok_nt (ok_bind (ok_eq (pair_right_ok hx0.1 hx0.2 hw hl) (ok_ret (ok_ff (ok_ret fun t ht => hx t (List.mem_cons_of_mem _ ht)))))))))
  rotate_left 1
  · exact fun _ h => h.elim
  · exact fun _ h => h.elim
  rintro _ -
  refine ok_bind (ok_forRL (fun ys _ => ∀ y ∈ ys, Words y ∧ y.length ≤ 20) (fun _ => False) (fun _ => False) ?_ ?_ ?_ ?_ ?_)
  · intro y hy
    simp only [List.mem_cons, List.not_mem_nil, or_false] at hy
    rcases hy with rfl | rfl | rfl | rfl | rfl
    · exact ⟨wsw, wsl⟩
    · exact ⟨fun t ht => (by cases ht), by simp⟩
    · refine ⟨fun t ht => ?_, by simp⟩
      simp only [List.mem_cons, List.not_mem_nil, or_false] at ht
      rcases ht with rfl | rfl
      · exact ⟨one hk0, by simp⟩
      · exact ⟨one hk1, by simp⟩
    · refine ⟨fun t ht => ?_, by simp⟩
      simp only [List.mem_cons, List.not_mem_nil, or_false] at ht
      rcases ht with rfl | rfl | rfl
      · exact ⟨n0, by simp⟩
      · exact ⟨hw, hl⟩
      · exact ⟨n0, by simp⟩
    · exact ⟨wsw, wsl⟩
  · rintro y ys _ hy
    have := hy y List.mem_cons_self
    exact ok_bind (ok_eq (list_right_ok this.1 this.2) (ok_nt (ok_ret fun t ht => hy t (List.mem_cons_of_mem _ ht))))
  rotate_left 1
  · exact fun _ h => h.elim
  · exact fun _ h => h.elim
  rintro _ -
  have w20 : Words (List.replicate 20 w) := fun x hx => by rw [(List.mem_replicate.mp hx).2]; exact ⟨hw, hl⟩
  have w19 : Words (List.replicate 19 ([] : Tx) ++ [full]) := fun x hx => by
    rcases List.mem_append.mp hx with e | e
    · rw [(List.mem_replicate.mp e).2]; exact ⟨n0, by simp⟩
    · have e : x = full := by simpa using e
      rw [e]; exact ⟨fw, by omega⟩
  refine ok_bind (ok_bind (ok_lRep (by omega) (by omega) (by simp) ?_))
  rw [flat_rep]
  refine ok_bind (ok_eq (list_right_ok w20 (by simp)) (ok_nt (ok_bind (ok_lRep (by omega) (by omega) (by simp) ?_))))
  rw [flat_rep]
  refine ok_bind (ok_lCat (by simp) (ok_bind (ok_eq (list_right_ok w19 (by simp)) (ok_ret (ok_ff ?_)))))
  refine ok_bind (ok_eq g0 (ok_bind (ok_eq g1 (ok_bind (ok_eq (pair_right_ok (one hk0) (by simp) (one hk1) (by simp)) (ok_nt ?_))))))
  refine ok_bind (ok_mono (podd_Ok h5 hw (by omega)) ?_)
  rintro ⟨odd, p7⟩ ⟨o1, o2, o3, h7⟩
  dsimp only at o1 o2 o3 h7 ⊢
  refine ok_bind (ok_bind (ok_eq gk (ok_xCat (by simp; omega) ?_)))
  have mb : Bad (full ++ [k0]) := ⟨fun z => by
    have := z.1
    rw [List.length_append, fl] at this
    simp at this, by rw [List.length_append, fl]; simp, wok_small (wok_app fw (one hk0))⟩
  have ob : Bad odd := ⟨fun z => o1 z.2, by omega, o3⟩
  refine ok_bind (ok_mono (pdraw_Ok h7 (by omega) ⟨by omega, sz (by omega)⟩) ?_)
  rintro ⟨d8, p8⟩ ⟨a8, b8, h8⟩
  dsimp only at a8 b8 h8 ⊢
  refine ok_bind (ok_forRL (fun ys _ => ∀ y ∈ ys, Bad y) (fun _ => False) (fun _ => False) ?_ ?_ ?_ ?_ ?_)
  · intro y hy
    simp only [List.mem_cons, List.not_mem_nil, or_false] at hy
    rcases hy with rfl | rfl
    · exact ob
    · exact mb
  · rintro y ys _ hy
    exact ok_bind (ok_eq (refuses_ok wsw wsl ⟨a8, b8⟩ hw hl (hy y List.mem_cons_self)) (ok_nt (ok_ret fun t ht => hy t (List.mem_cons_of_mem _ ht))))
  rotate_left 1
  · exact fun _ h => h.elim
  · exact fun _ h => h.elim
  rintro _ -
  exact ok_bind (ok_eq (refuses_first_ok hw hl ob mb) (ok_ret rfl))
end G
namespace G
open PySem PySem.Spec PyProof.Rows L2 M
def top (i : Nat) : Stmt := PySem.Challenge.pw_wordruns_k01_roots_and_commuting.main.body.getD i (.Pass ⟨0, 0, 0, 0⟩)
abbrev s_law_mixed : Stmt := top 16
abbrev N_law_mixed : List Str := ["cell", "k", "number", "wide", "turn"]
theorem sc_law_mixed : FnScope N_law_mixed ["cell", "k"] (defScope s_law_mixed) := ⟨rfl, rfl, rfl, by decide +kernel, rfl, by decide +kernel, by decide +kernel⟩

abbrev s_law_pool : Stmt := top 17
abbrev N_law_pool : List Str := ["script", "pool", "k", "cell"]
theorem sc_law_pool : FnScope N_law_pool ["script"] (defScope s_law_pool) := ⟨rfl, rfl, rfl, by decide +kernel, rfl, by decide +kernel, by decide +kernel⟩

abbrev s_law_draw : Stmt := top 18
abbrev N_law_draw : List Str := ["pool", "k", "many", "digit"]
theorem sc_law_draw : FnScope N_law_draw ["pool", "k", "many"] (defScope s_law_draw) := ⟨rfl, rfl, rfl, by decide +kernel, rfl, by decide +kernel, by decide +kernel⟩

abbrev s_law_word : Stmt := top 19
abbrev N_law_word : List Str := ["pool", "k", "kinds", "size", "row", "place"]
theorem sc_law_word : FnScope N_law_word ["pool", "k", "kinds", "size"] (defScope s_law_word) := ⟨rfl, rfl, rfl, by decide +kernel, rfl, by decide +kernel, by decide +kernel⟩

abbrev s_law_first : Stmt := top 20
abbrev N_law_first : List Str := ["pool", "kinds", "base", "word", "place", "sign"]
theorem sc_law_first : FnScope N_law_first ["pool", "kinds"] (defScope s_law_first) := ⟨rfl, rfl, rfl, by decide +kernel, rfl, by decide +kernel, by decide +kernel⟩

abbrev s_law_second : Stmt := top 21
abbrev N_law_second : List Str := ["pool", "kinds", "base", "word", "case"]
theorem sc_law_second : FnScope N_law_second ["pool", "kinds", "base", "word"] (defScope s_law_second) := ⟨rfl, rfl, rfl, by decide +kernel, rfl, by decide +kernel, by decide +kernel⟩

abbrev s_law_list : Stmt := top 22
abbrev N_law_list : List Str := ["pool", "kinds", "base", "count", "many", "words", "at", "k"]
theorem sc_law_list : FnScope N_law_list ["pool", "kinds", "base"] (defScope s_law_list) := ⟨rfl, rfl, rfl, by decide +kernel, rfl, by decide +kernel, by decide +kernel⟩

abbrev s_law_odd : Stmt := top 23
abbrev N_law_odd : List Str := ["pool", "word", "signs", "place", "sign"]
theorem sc_law_odd : FnScope N_law_odd ["pool", "word"] (defScope s_law_odd) := ⟨rfl, rfl, rfl, by decide +kernel, rfl, by decide +kernel, by decide +kernel⟩

abbrev s_is_letters : Stmt := top 5
abbrev N_is_letters : List Str := ["text", "most", "letter"]
theorem sc_is_letters : FnScope N_is_letters ["text", "most"] (defScope s_is_letters) := ⟨rfl, rfl, rfl, by decide +kernel, rfl, by decide +kernel, by decide +kernel⟩

abbrev s_is_word : Stmt := top 6
abbrev N_is_word : List Str := ["text"]
theorem sc_is_word : FnScope N_is_word ["text"] (defScope s_is_word) := ⟨rfl, rfl, rfl, by decide +kernel, rfl, by decide +kernel, by decide +kernel⟩

abbrev s_check_word : Stmt := top 7
abbrev N_check_word : List Str := ["word"]
theorem sc_check_word : FnScope N_check_word ["word"] (defScope s_check_word) := ⟨rfl, rfl, rfl, by decide +kernel, rfl, by decide +kernel, by decide +kernel⟩

abbrev s_check_many : Stmt := top 8
abbrev N_check_many : List Str := ["things", "most"]
theorem sc_check_many : FnScope N_check_many ["things", "most"] (defScope s_check_many) := ⟨rfl, rfl, rfl, by decide +kernel, rfl, by decide +kernel, by decide +kernel⟩

abbrev s_root : Stmt := top 10
abbrev N_root : List Str := ["word", "size", "count"]
theorem sc_root : FnScope N_root ["word"] (defScope s_root) := ⟨rfl, rfl, rfl, by decide +kernel, rfl, by decide +kernel, by decide +kernel⟩

abbrev s_exponent : Stmt := top 11
abbrev N_exponent : List Str := ["word", "shortest"]
theorem sc_exponent : FnScope N_exponent ["word"] (defScope s_exponent) := ⟨rfl, rfl, rfl, by decide +kernel, rfl, by decide +kernel, by decide +kernel⟩

abbrev s_is_primitive : Stmt := top 12
abbrev N_is_primitive : List Str := ["word"]
theorem sc_is_primitive : FnScope N_is_primitive ["word"] (defScope s_is_primitive) := ⟨rfl, rfl, rfl, by decide +kernel, rfl, by decide +kernel, by decide +kernel⟩

abbrev s_commute : Stmt := top 13
abbrev N_commute : List Str := ["first", "second"]
theorem sc_commute : FnScope N_commute ["first", "second"] (defScope s_commute) := ⟨rfl, rfl, rfl, by decide +kernel, rfl, by decide +kernel, by decide +kernel⟩

abbrev s_common_root : Stmt := top 14
abbrev N_common_root : List Str := ["words", "word", "shared"]
theorem sc_common_root : FnScope N_common_root ["words"] (defScope s_common_root) := ⟨rfl, rfl, rfl, by decide +kernel, rfl, by decide +kernel, by decide +kernel⟩

abbrev s_law_written : Stmt := top 24
abbrev N_law_written : List Str := ["word", "count", "place"]
theorem sc_law_written : FnScope N_law_written ["word", "count"] (defScope s_law_written) := ⟨rfl, rfl, rfl, by decide +kernel, rfl, by decide +kernel, by decide +kernel⟩

abbrev s_law_root : Stmt := top 25
abbrev N_law_root : List Str := ["word", "count"]
theorem sc_law_root : FnScope N_law_root ["word"] (defScope s_law_root) := ⟨rfl, rfl, rfl, by decide +kernel, rfl, by decide +kernel, by decide +kernel⟩

abbrev s_law_shared : Stmt := top 26
abbrev N_law_shared : List Str := ["words", "roots", "word", "own"]
theorem sc_law_shared : FnScope N_law_shared ["words"] (defScope s_law_shared) := ⟨rfl, rfl, rfl, by decide +kernel, rfl, by decide +kernel, by decide +kernel⟩

abbrev s_law_word_right : Stmt := top 27
abbrev N_law_word_right : List Str := ["word", "due", "times", "told"]
theorem sc_law_word_right : FnScope N_law_word_right ["word"] (defScope s_law_word_right) := ⟨rfl, rfl, rfl, by decide +kernel, rfl, by decide +kernel, by decide +kernel⟩

abbrev s_law_pair_right : Stmt := top 28
abbrev N_law_pair_right : List Str := ["first", "second", "told", "due"]
theorem sc_law_pair_right : FnScope N_law_pair_right ["first", "second"] (defScope s_law_pair_right) := ⟨rfl, rfl, rfl, by decide +kernel, rfl, by decide +kernel, by decide +kernel⟩

abbrev s_law_list_right : Stmt := top 29
abbrev N_law_list_right : List Str := ["words", "due", "handed", "told"]
theorem sc_law_list_right : FnScope N_law_list_right ["words"] (defScope s_law_list_right) := ⟨rfl, rfl, rfl, by decide +kernel, rfl, by decide +kernel, by decide +kernel⟩

abbrev s_law_told : Stmt := top 30
abbrev N_law_told : List Str := ["task", "given", "e", "fair"]
theorem sc_law_told : FnScope N_law_told ["task", "given"] (defScope s_law_told) := ⟨rfl, rfl, rfl, by decide +kernel, rfl, by decide +kernel, by decide +kernel⟩

abbrev s_law_refuses : Stmt := top 31
abbrev N_law_refuses : List Str := ["words", "at", "word", "bad", "due", "task", "given", "row"]
theorem sc_law_refuses : FnScope N_law_refuses ["words", "at", "word", "bad"] (defScope s_law_refuses) := ⟨rfl, rfl, rfl, by decide +kernel, rfl, by decide +kernel, by decide +kernel⟩

abbrev s_law_refuses_first : Stmt := top 32
abbrev N_law_refuses_first : List Str := ["word", "odd", "much", "pair", "due"]
theorem sc_law_refuses_first : FnScope N_law_refuses_first ["word", "odd", "much"] (defScope s_law_refuses_first) := ⟨rfl, rfl, rfl, by decide +kernel, rfl, by decide +kernel, by decide +kernel⟩

abbrev s_law : Stmt := top 33
abbrev N_law : List Str := ["script", "pool", "letters", "sorts", "kinds", "made", "base", "word", "second", "words", "full", "unlike", "tried", "one", "other", "row", "odd", "much", "at", "bad", "k", "sort"]
theorem sc_law : FnScope N_law ["script"] (defScope s_law) := ⟨rfl, rfl, rfl, by decide +kernel, rfl, by decide +kernel, by decide +kernel⟩
structure Txt (Pg : Program) (w : World) (K : PySem.W.Frag) (mg : Str → Option Value) where
  a_law_mixed : Addr
  d_law_mixed : FuncData
  F_law_mixed : Fun K "_law_mixed" "_law_mixed" s_law_mixed a_law_mixed d_law_mixed
  g_law_mixed : mg "_law_mixed" = some (.ref a_law_mixed)
  b_law_mixed : Binds K d_law_mixed ["cell", "k"] []
  a_law_pool : Addr
  d_law_pool : FuncData
  F_law_pool : Fun K "_law_pool" "_law_pool" s_law_pool a_law_pool d_law_pool
  g_law_pool : mg "_law_pool" = some (.ref a_law_pool)
  b_law_pool : Binds K d_law_pool ["script"] []
  a_law_draw : Addr
  d_law_draw : FuncData
  F_law_draw : Fun K "_law_draw" "_law_draw" s_law_draw a_law_draw d_law_draw
  g_law_draw : mg "_law_draw" = some (.ref a_law_draw)
  b_law_draw : Binds K d_law_draw ["pool", "k", "many"] []
  a_law_word : Addr
  d_law_word : FuncData
  F_law_word : Fun K "_law_word" "_law_word" s_law_word a_law_word d_law_word
  g_law_word : mg "_law_word" = some (.ref a_law_word)
  b_law_word : Binds K d_law_word ["pool", "k", "kinds", "size"] []
  a_law_first : Addr
  d_law_first : FuncData
  F_law_first : Fun K "_law_first" "_law_first" s_law_first a_law_first d_law_first
  g_law_first : mg "_law_first" = some (.ref a_law_first)
  b_law_first : Binds K d_law_first ["pool", "kinds"] []
  a_law_second : Addr
  d_law_second : FuncData
  F_law_second : Fun K "_law_second" "_law_second" s_law_second a_law_second d_law_second
  g_law_second : mg "_law_second" = some (.ref a_law_second)
  b_law_second : Binds K d_law_second ["pool", "kinds", "base", "word"] []
  a_law_list : Addr
  d_law_list : FuncData
  F_law_list : Fun K "_law_list" "_law_list" s_law_list a_law_list d_law_list
  g_law_list : mg "_law_list" = some (.ref a_law_list)
  b_law_list : Binds K d_law_list ["pool", "kinds", "base"] []
  a_law_odd : Addr
  d_law_odd : FuncData
  F_law_odd : Fun K "_law_odd" "_law_odd" s_law_odd a_law_odd d_law_odd
  g_law_odd : mg "_law_odd" = some (.ref a_law_odd)
  b_law_odd : Binds K d_law_odd ["pool", "word"] []
  a_is_letters : Addr
  d_is_letters : FuncData
  F_is_letters : Fun K "is_letters" "is_letters" s_is_letters a_is_letters d_is_letters
  g_is_letters : mg "is_letters" = some (.ref a_is_letters)
  b_is_letters : Binds K d_is_letters ["text", "most"] []
  a_is_word : Addr
  d_is_word : FuncData
  F_is_word : Fun K "is_word" "is_word" s_is_word a_is_word d_is_word
  g_is_word : mg "is_word" = some (.ref a_is_word)
  b_is_word : Binds K d_is_word ["text"] []
  a_check_word : Addr
  d_check_word : FuncData
  F_check_word : Fun K "check_word" "check_word" s_check_word a_check_word d_check_word
  g_check_word : mg "check_word" = some (.ref a_check_word)
  b_check_word : Binds K d_check_word ["word"] []
  a_check_many : Addr
  d_check_many : FuncData
  F_check_many : Fun K "check_many" "check_many" s_check_many a_check_many d_check_many
  g_check_many : mg "check_many" = some (.ref a_check_many)
  b_check_many : Binds K d_check_many ["things", "most"] []
  a_root : Addr
  d_root : FuncData
  F_root : Fun K "root" "root" s_root a_root d_root
  g_root : mg "root" = some (.ref a_root)
  b_root : Binds K d_root ["word"] []
  a_exponent : Addr
  d_exponent : FuncData
  F_exponent : Fun K "exponent" "exponent" s_exponent a_exponent d_exponent
  g_exponent : mg "exponent" = some (.ref a_exponent)
  b_exponent : Binds K d_exponent ["word"] []
  a_is_primitive : Addr
  d_is_primitive : FuncData
  F_is_primitive : Fun K "is_primitive" "is_primitive" s_is_primitive a_is_primitive d_is_primitive
  g_is_primitive : mg "is_primitive" = some (.ref a_is_primitive)
  b_is_primitive : Binds K d_is_primitive ["word"] []
  a_commute : Addr
  d_commute : FuncData
  F_commute : Fun K "commute" "commute" s_commute a_commute d_commute
  g_commute : mg "commute" = some (.ref a_commute)
  b_commute : Binds K d_commute ["first", "second"] []
  a_common_root : Addr
  d_common_root : FuncData
  F_common_root : Fun K "common_root" "common_root" s_common_root a_common_root d_common_root
  g_common_root : mg "common_root" = some (.ref a_common_root)
  b_common_root : Binds K d_common_root ["words"] []
  a_law_written : Addr
  d_law_written : FuncData
  F_law_written : Fun K "_law_written" "_law_written" s_law_written a_law_written d_law_written
  g_law_written : mg "_law_written" = some (.ref a_law_written)
  b_law_written : Binds K d_law_written ["word", "count"] []
  a_law_root : Addr
  d_law_root : FuncData
  F_law_root : Fun K "_law_root" "_law_root" s_law_root a_law_root d_law_root
  g_law_root : mg "_law_root" = some (.ref a_law_root)
  b_law_root : Binds K d_law_root ["word"] []
  a_law_shared : Addr
  d_law_shared : FuncData
  F_law_shared : Fun K "_law_shared" "_law_shared" s_law_shared a_law_shared d_law_shared
  g_law_shared : mg "_law_shared" = some (.ref a_law_shared)
  b_law_shared : Binds K d_law_shared ["words"] []
  a_law_word_right : Addr
  d_law_word_right : FuncData
  F_law_word_right : Fun K "_law_word_right" "_law_word_right" s_law_word_right a_law_word_right d_law_word_right
  g_law_word_right : mg "_law_word_right" = some (.ref a_law_word_right)
  b_law_word_right : Binds K d_law_word_right ["word"] []
  a_law_pair_right : Addr
  d_law_pair_right : FuncData
  F_law_pair_right : Fun K "_law_pair_right" "_law_pair_right" s_law_pair_right a_law_pair_right d_law_pair_right
  g_law_pair_right : mg "_law_pair_right" = some (.ref a_law_pair_right)
  b_law_pair_right : Binds K d_law_pair_right ["first", "second"] []
  a_law_list_right : Addr
  d_law_list_right : FuncData
  F_law_list_right : Fun K "_law_list_right" "_law_list_right" s_law_list_right a_law_list_right d_law_list_right
  g_law_list_right : mg "_law_list_right" = some (.ref a_law_list_right)
  b_law_list_right : Binds K d_law_list_right ["words"] []
  a_law_told : Addr
  d_law_told : FuncData
  F_law_told : Fun K "_law_told" "_law_told" s_law_told a_law_told d_law_told
  g_law_told : mg "_law_told" = some (.ref a_law_told)
  b_law_told : Binds K d_law_told ["task", "given"] []
  a_law_refuses : Addr
  d_law_refuses : FuncData
  F_law_refuses : Fun K "_law_refuses" "_law_refuses" s_law_refuses a_law_refuses d_law_refuses
  g_law_refuses : mg "_law_refuses" = some (.ref a_law_refuses)
  b_law_refuses : Binds K d_law_refuses ["words", "at", "word", "bad"] []
  a_law_refuses_first : Addr
  d_law_refuses_first : FuncData
  F_law_refuses_first : Fun K "_law_refuses_first" "_law_refuses_first" s_law_refuses_first a_law_refuses_first d_law_refuses_first
  g_law_refuses_first : mg "_law_refuses_first" = some (.ref a_law_refuses_first)
  b_law_refuses_first : Binds K d_law_refuses_first ["word", "odd", "much"] []
  a_law : Addr
  d_law : FuncData
  F_law : Fun K "law" "law" s_law a_law d_law
  g_law : mg "law" = some (.ref a_law)
  b_law : Binds K d_law ["script"] []
  k_root_0 : KBn K d_root ["word"] 0 ["word"] (gI [0]) (gI [0])
  k_exponent_1 : KBn K d_exponent ["word"] 0 ["word"] (gI [0]) (gI [0])
  k_is_primitive_2 : KBn K d_is_primitive ["word"] 0 ["word"] (gI [0]) (gI [0])
  k_commute_3 : KBn K d_commute ["first", "second"] 0 ["second", "first"] (gI [1, 0]) (gI [1, 0])
  k_common_root_4 : KBn K d_common_root ["words"] 0 ["words"] (gI [0]) (gI [0])
  z_ValueError : mg "ValueError" = none
  z_abs : mg "abs" = none
  z_bool : mg "bool" = none
  z_int : mg "int" = none
  z_isinstance : mg "isinstance" = none
  z_len : mg "len" = none
  z_list : mg "list" = none
  z_max : mg "max" = none
  z_min : mg "min" = none
  z_range : mg "range" = none
  z_str : mg "str" = none
  z_tuple : mg "tuple" = none
  C_BadWord : Addr
  I_BadWord : Addr
  D_BadWord : FuncData
  x_BadWord : ∀ {base : Heap}, ExcN Pg w K mg base "BadWord" "word" C_BadWord I_BadWord D_BadWord
  C_TooMany : Addr
  I_TooMany : Addr
  D_TooMany : FuncData
  x_TooMany : ∀ {base : Heap}, ExcN Pg w K mg base "TooMany" "most" C_TooMany I_TooMany D_TooMany
  gC_BadWord : mg "BadWord" = some (.ref C_BadWord)
  gC_TooMany : mg "TooMany" = some (.ref C_TooMany)
  C_WordError : Addr
  gC_WordError : mg "WordError" = some (.ref C_WordError)
  q_BadWord_BadWord : PySem.W.kitOne K (.ref C_BadWord) (.ref C_BadWord) = some true
  q_TooMany_BadWord : PySem.W.kitOne K (.ref C_TooMany) (.ref C_BadWord) = some false
  q_BadWord_TooMany : PySem.W.kitOne K (.ref C_BadWord) (.ref C_TooMany) = some false
  q_TooMany_TooMany : PySem.W.kitOne K (.ref C_TooMany) (.ref C_TooMany) = some true
  q_BadWord_ValueError : PySem.W.kitOne K (.ref C_BadWord) (.type "ValueError") = some true
  q_TooMany_ValueError : PySem.W.kitOne K (.ref C_TooMany) (.type "ValueError") = some true
  q_BadWord_WordError : PySem.W.kitOne K (.ref C_BadWord) (.ref C_WordError) = some true
  q_TooMany_WordError : PySem.W.kitOne K (.ref C_TooMany) (.ref C_WordError) = some true
  v_BadWord_BadWord : PySem.W.exmOne K (.ref C_BadWord) (.ref C_BadWord) = some true
  v_TooMany_BadWord : PySem.W.exmOne K (.ref C_TooMany) (.ref C_BadWord) = some false
  v_BadWord_TooMany : PySem.W.exmOne K (.ref C_BadWord) (.ref C_TooMany) = some false
  v_TooMany_TooMany : PySem.W.exmOne K (.ref C_TooMany) (.ref C_TooMany) = some true
section
variable {Pg : Program} {w : World} {K : PySem.W.Frag} {mg : Str → Option Value} {base : Heap}
theorem is_BadWord_ok (T : Txt Pg w K mg) {e : Exn} {cls : Value} (h : mg e.cls = some cls) : IsOk K cls (.ref T.C_BadWord) (is_BadWord e) := by
  unfold is_BadWord
  by_cases h_BadWord : e.cls = "BadWord"
  · rw [h_BadWord, (T.x_BadWord (base := {})).gC] at h
    rw [if_pos h_BadWord]
    exact .inr ⟨_, _, (Option.some.inj h).symm, (T.x_BadWord (base := {})).ec, T.q_BadWord_BadWord, rfl⟩
  rw [if_neg h_BadWord]
  by_cases h_TooMany : e.cls = "TooMany"
  · rw [h_TooMany, (T.x_TooMany (base := {})).gC] at h
    rw [if_pos h_TooMany]
    exact .inr ⟨_, _, (Option.some.inj h).symm, (T.x_TooMany (base := {})).ec, T.q_TooMany_BadWord, rfl⟩
  rw [if_neg h_TooMany]
  exact .inl rfl
theorem is_TooMany_ok (T : Txt Pg w K mg) {e : Exn} {cls : Value} (h : mg e.cls = some cls) : IsOk K cls (.ref T.C_TooMany) (is_TooMany e) := by
  unfold is_TooMany
  by_cases h_BadWord : e.cls = "BadWord"
  · rw [h_BadWord, (T.x_BadWord (base := {})).gC] at h
    rw [if_pos h_BadWord]
    exact .inr ⟨_, _, (Option.some.inj h).symm, (T.x_BadWord (base := {})).ec, T.q_BadWord_TooMany, rfl⟩
  rw [if_neg h_BadWord]
  by_cases h_TooMany : e.cls = "TooMany"
  · rw [h_TooMany, (T.x_TooMany (base := {})).gC] at h
    rw [if_pos h_TooMany]
    exact .inr ⟨_, _, (Option.some.inj h).symm, (T.x_TooMany (base := {})).ec, T.q_TooMany_TooMany, rfl⟩
  rw [if_neg h_TooMany]
  exact .inl rfl
theorem is_ValueError_ok (T : Txt Pg w K mg) {e : Exn} {cls : Value} (h : mg e.cls = some cls) : IsOk K cls (.type "ValueError") (is_ValueError e) := by
  unfold is_ValueError
  by_cases h_BadWord : e.cls = "BadWord"
  · rw [h_BadWord, (T.x_BadWord (base := {})).gC] at h
    rw [if_pos h_BadWord]
    exact .inr ⟨_, _, (Option.some.inj h).symm, (T.x_BadWord (base := {})).ec, T.q_BadWord_ValueError, rfl⟩
  rw [if_neg h_BadWord]
  by_cases h_TooMany : e.cls = "TooMany"
  · rw [h_TooMany, (T.x_TooMany (base := {})).gC] at h
    rw [if_pos h_TooMany]
    exact .inr ⟨_, _, (Option.some.inj h).symm, (T.x_TooMany (base := {})).ec, T.q_TooMany_ValueError, rfl⟩
  rw [if_neg h_TooMany]
  exact .inl rfl
theorem is_WordError_ok (T : Txt Pg w K mg) {e : Exn} {cls : Value} (h : mg e.cls = some cls) : IsOk K cls (.ref T.C_WordError) (is_WordError e) := by
  unfold is_WordError
  by_cases h_BadWord : e.cls = "BadWord"
  · rw [h_BadWord, (T.x_BadWord (base := {})).gC] at h
    rw [if_pos h_BadWord]
    exact .inr ⟨_, _, (Option.some.inj h).symm, (T.x_BadWord (base := {})).ec, T.q_BadWord_WordError, rfl⟩
  rw [if_neg h_BadWord]
  by_cases h_TooMany : e.cls = "TooMany"
  · rw [h_TooMany, (T.x_TooMany (base := {})).gC] at h
    rw [if_pos h_TooMany]
    exact .inr ⟨_, _, (Option.some.inj h).symm, (T.x_TooMany (base := {})).ec, T.q_TooMany_WordError, rfl⟩
  rw [if_neg h_TooMany]
  exact .inl rfl
theorem hx_BadWord (T : Txt Pg w K mg) {ω : Type} {P : ω → Prop} {X : Exn → Prop} {e : Exn} {m : Bool → Res ω} (h : wp ((is_BadWord e).bind m) P X) : ∃ b, (∀ cls, mg e.cls = some cls → PySem.W.exmOne K cls (.ref T.C_BadWord) = some b) ∧ wp (m b) P X := by
  unfold is_BadWord at h
  by_cases h_BadWord : e.cls = "BadWord"
  · rw [if_pos h_BadWord] at h
    refine ⟨_, fun cls hm => ?_, h⟩
    rw [h_BadWord, (T.x_BadWord (base := {})).gC] at hm
    rw [← Option.some.inj hm]
    exact T.v_BadWord_BadWord
  rw [if_neg h_BadWord] at h
  by_cases h_TooMany : e.cls = "TooMany"
  · rw [if_pos h_TooMany] at h
    refine ⟨_, fun cls hm => ?_, h⟩
    rw [h_TooMany, (T.x_TooMany (base := {})).gC] at hm
    rw [← Option.some.inj hm]
    exact T.v_TooMany_BadWord
  rw [if_neg h_TooMany] at h
  exact h.elim
theorem hx_TooMany (T : Txt Pg w K mg) {ω : Type} {P : ω → Prop} {X : Exn → Prop} {e : Exn} {m : Bool → Res ω} (h : wp ((is_TooMany e).bind m) P X) : ∃ b, (∀ cls, mg e.cls = some cls → PySem.W.exmOne K cls (.ref T.C_TooMany) = some b) ∧ wp (m b) P X := by
  unfold is_TooMany at h
  by_cases h_BadWord : e.cls = "BadWord"
  · rw [if_pos h_BadWord] at h
    refine ⟨_, fun cls hm => ?_, h⟩
    rw [h_BadWord, (T.x_BadWord (base := {})).gC] at hm
    rw [← Option.some.inj hm]
    exact T.v_BadWord_TooMany
  rw [if_neg h_BadWord] at h
  by_cases h_TooMany : e.cls = "TooMany"
  · rw [if_pos h_TooMany] at h
    refine ⟨_, fun cls hm => ?_, h⟩
    rw [h_TooMany, (T.x_TooMany (base := {})).gC] at hm
    rw [← Option.some.inj hm]
    exact T.v_TooMany_TooMany
  rw [if_neg h_TooMany] at h
  exact h.elim
theorem ok_law_mixed (T : Txt Pg w K mg) : FnOk Pg w K mg base (L2N.CX Pg w) 1 T.a_law_mixed T.d_law_mixed ["cell", "k"] (SpM K mg 2 (fun (a : Int × Int) => [.im a.1, .im a.2]) (fun a => m_law_mixed a.1 a.2) (fun b => .im b)) := by
  refine okN T.F_law_mixed sc_law_mixed (fun vs H Q E h => h.1) fun cdv A outer s H vs Q E hr h => ?_
  obtain ⟨hl, ⟨cell, k_⟩, I, ρ, Θ, hE, h⟩ := h
  have hE : Env K I H (start N_law_mixed vs) [.im (cell : Int), .im (k_ : Int), .any, .any, .any] ρ Θ := st_start hE (by rw [hl]; first | rfl | done)
  refine ⟨_, (pss_cons (ps_set (i := 2) sc_law_mixed.nd rfl (.inl rfl) (pe_op op_mod (pe_callTy call_int1 (by rfl) T.z_int (by decide +kernel) (pa_cons (pe_op op_add (pe_op op_add (pe_op op_mulW (pv 0) pe_int) (pe_op op_mulW (pv 1) pe_int)) pe_int) pa_nil)) pe_int))
      (pss_cons (ps_set (i := 3) sc_law_mixed.nd rfl (.inl rfl) pe_int)
      (pss_cons (ps_for (passes_of rfl) rfl (pi_range1 (by rfl) T.z_range (pa_cons pe_int pa_nil)) (pg_name (i := 4) sc_law_mixed.nd rfl (.inl rfl)) (pss_cons (ps_set (i := 2) sc_law_mixed.nd rfl (.inl rfl) (pe_op op_mod (pe_callTy call_int1 (by rfl) T.z_int (by decide +kernel) (pa_cons (pe_op op_add (pe_op op_add (pe_op op_mulW (pv 2) pe_int) (pe_op op_mulW (pv 4) pe_int)) pe_int) pa_nil)) pe_int))
      (pss_one (ps_set (i := 3) sc_law_mixed.nd rfl (.inl rfl) (pe_op op_add (pe_op op_mulW (pv 3) pe_int) (pv 2))))))
      (pss_one (ps_ret (pv 3)))))), ?_⟩
  generalize start N_law_mixed vs = σ at hE ⊢
  change wp (m_law_mixed cell k_) _ _ at h
  unfold m_law_mixed at h
  refine uSeq ?_
  refine st_setm (Γ' := fun (number : Int) => [.im (cell : Int), .im (k_ : Int), .im (number : Int), .any, .any]) hE (hf_mp (fun _ => hr_mod) (hf_c1m (fun _ => hc_int) (hf_mp (fun _ => hr_add) (hf_mm (fun _ _ => hr_add) (hf_pp hr_mul (hf_var rfl) (hf_c (a := (48271 : Int)) rfl trivial)) (hf_pp hr_mul (hf_var rfl) (hf_c (a := (69621 : Int)) rfl trivial))) (hf_c (a := (7 : Int)) rfl trivial))) (hf_c (a := (2147483647 : Int)) rfl trivial)) h (fun _ => rfl) (by decide : (2 : Nat) < 5) fun number σ hE h => ?_
  refine uSeq ?_
  refine st_setm (Γ' := fun (wide : Int) => [.im (cell : Int), .im (k_ : Int), .im (number : Int), .im (wide : Int), .any]) hE (hf_c (a := (0 : Int)) rfl trivial) h (fun _ => rfl) (by decide : (3 : Nat) < 5) fun wide σ hE h => ?_
  refine uSeq (uFor ?_)
  refine it_rng1 hE (hf_c (a := (32 : Int)) rfl trivial) h fun xs6 h J hJ => ?_
  refine st_forS (α := Int) hJ (fun (s : Int × Int) => match s with | (number, wide) => [.im (cell : Int), .im (k_ : Int), .im (number : Int), .im (wide : Int), .any]) hE ⟨.inr rfl, .inr rfl, .inr rfl, .inr rfl, .inl rfl, trivial⟩ h (fun turn s I H σ v N B hE h => ?_) (fun s I H σ hE h => ?_)
  ·
    obtain ⟨number, wide⟩ := s
    refine st_store (Γ' := [.im (cell : Int), .im (k_ : Int), .im (number : Int), .im (wide : Int), .im (turn : Int)]) hE rfl (by decide : (4 : Nat) < 5) fun σ hE => ?_
    refine uSeq ?_
    refine st_setm (Γ' := fun (number : Int) => [.im (cell : Int), .im (k_ : Int), .im (number : Int), .im (wide : Int), .im (turn : Int)]) hE (hf_mp (fun _ => hr_mod) (hf_c1m (fun _ => hc_int) (hf_mp (fun _ => hr_add) (hf_mm (fun _ _ => hr_add) (hf_pp hr_mul (hf_var rfl) (hf_c (a := (16807 : Int)) rfl trivial)) (hf_pp hr_mul (hf_var rfl) (hf_c (a := (40692 : Int)) rfl trivial))) (hf_c (a := (11 : Int)) rfl trivial))) (hf_c (a := (2147483399 : Int)) rfl trivial)) h (fun _ => rfl) (by decide : (2 : Nat) < 5) fun number σ hE h => ?_
    refine st_setm (Γ' := fun (wide : Int) => [.im (cell : Int), .im (k_ : Int), .im (number : Int), .im (wide : Int), .im (turn : Int)]) hE (hf_mp (fun _ => hr_add) (hf_pp hr_mul (hf_var rfl) (hf_c (a := (2147483399 : Int)) rfl trivial)) (hf_var rfl)) h (fun _ => rfl) (by decide : (3 : Nat) < 5) fun wide σ hE h => ?_
    exact h _ _ _ (hE.weak (Γ' := [.im (cell : Int), .im (k_ : Int), .im (number : Int), .im (wide : Int), .any]) ⟨.inr rfl, .inr rfl, .inr rfl, .inr rfl, .inl rfl, trivial⟩)
  obtain ⟨number, wide⟩ := s
  exact st_ret hE (hf_var rfl) h

theorem ok_law_pool (T : Txt Pg w K mg) : FnOk Pg w K mg base (L2N.CX Pg w) 2 T.a_law_pool T.d_law_pool ["script"] (SpM K mg 1 (fun (a : (List Int)) => [.im a]) (fun a => m_law_pool a) (fun b => .own b)) := by
  refine okN T.F_law_pool sc_law_pool (fun vs H Q E h => h.1) fun cdv A outer s H vs Q E hr h => ?_
  obtain ⟨hl, script, I, ρ, Θ, hE, h⟩ := h
  have hE : Env K I H (start N_law_pool vs) [.im (script : (List Int)), .any, .any, .any] ρ Θ := st_start hE (by rw [hl]; first | rfl | done)
  refine ⟨_, (pss_cons (ps_set (i := 1) sc_law_pool.nd rfl (.inl rfl) (pe_lst pa_nil))
      (pss_cons (ps_for (passes_of rfl) rfl (pi_range1 (by rfl) T.z_range (pa_cons pe_int pa_nil)) (pg_name (i := 2) sc_law_pool.nd rfl (.inl rfl)) (pss_cons (ps_set (i := 3) sc_law_pool.nd rfl (.inl rfl) pe_int)
      (pss_cons (ps_if (pt_cmpR op_lt (pv 2) (pe_callB call_len_seq (by rfl) T.z_len PySem.boot_len (pa_cons (pv 0) pa_nil)) (nomark _)) (pss_one (ps_set (i := 3) sc_law_pool.nd rfl (.inl rfl) (pe_ix ix_list (pv 0) (pv 2) (fun _ _ => rfl)))) (pss_one (ps_if (pt_cmpR op_gt (pe_callB call_len_seq (by rfl) T.z_len PySem.boot_len (pa_cons (pv 0) pa_nil)) pe_int (nomark _)) (pss_one (ps_set (i := 3) sc_law_pool.nd rfl (.inl rfl) (pe_op op_mod (pe_callTy call_int1 (by rfl) T.z_int (by decide +kernel) (pa_cons (pe_ix ix_list (pv 0) (pe_op op_mod (pe_callTy call_int1 (by rfl) T.z_int (by decide +kernel) (pa_cons (pv 2) pa_nil)) (pe_callB call_len_seq (by rfl) T.z_len PySem.boot_len (pa_cons (pv 0) pa_nil))) (fun _ _ => rfl)) pa_nil)) (pe_op op_powW pe_int pe_int)))) pss_nil)))
      (pss_cons (ps_if (pt_cmpR op_lt (pe_callB call_abs (by rfl) T.z_abs (by decide +kernel) (pa_cons (pv 3) pa_nil)) (pe_op op_powW pe_int pe_int) (nomark _)) (pss_one (ps_set (i := 3) sc_law_pool.nd rfl (.inl rfl) (pe_callS (ok_law_mixed (base := base) T) (hr.mono (by decide)) (by rfl) T.g_law_mixed T.F_law_mixed.kp T.b_law_mixed (fun σ => L2N.passAt (L2N.takes_of rfl rfl rfl rfl) σ) (pa_cons (pv 3) (pa_cons (pv 2) pa_nil))))) pss_nil)
      (pss_one (ps_expr (pe_bm PySem.F.plainAttrs_list PySem.F.slot_list_append PySem.F.type_list_append mt_append (pv 1) (pa_cons (pe_op op_mod (pe_callTy call_int1 (by rfl) T.z_int (by decide +kernel) (pa_cons (pv 3) pa_nil)) (pe_op op_powW (pe_op op_powW pe_int pe_int) pe_int)) pa_nil))))))))
      (pss_one (ps_ret (pv 1))))), ?_⟩
  generalize start N_law_pool vs = σ at hE ⊢
  change wp (m_law_pool script) _ _ at h
  unfold m_law_pool at h
  refine uSeq (uAsg (uLst (uNil ?_)))
  refine st_lstO (α := Int) [] [] rfl (Nat.zero_le _) hE fun H v hE => ?_
  refine st_nameO hE h fun pool hE h => ?_
  refine st_store (Γ' := [.im (script : (List Int)), .own (pool : (List Int)), .any, .any]) hE rfl (by decide : (1 : Nat) < 4) fun σ hE => ?_
  refine uSeq (uFor ?_)
  refine it_rng1 hE (hf_c (a := (12 : Int)) rfl trivial) h fun xs1 h J hJ => ?_
  refine st_forS (α := Int) hJ (fun (pool : (List Int)) => [.im (script : (List Int)), .own (pool : (List Int)), .any, .any]) hE ⟨.inr rfl, .inr rfl, .inl rfl, .inl rfl, trivial⟩ h (fun k_ s I H σ v N B hE h => ?_) (fun s I H σ hE h => ?_)
  ·
    revert hE h; revert s; intro pool hE h
    refine st_store (Γ' := [.im (script : (List Int)), .own (pool : (List Int)), .im (k_ : Int), .any]) hE rfl (by decide : (2 : Nat) < 4) fun σ hE => ?_
    refine uSeq ?_
    refine st_setm (Γ' := fun (cell : Int) => [.im (script : (List Int)), .own (pool : (List Int)), .im (k_ : Int), .im (cell : Int)]) hE (hf_c (a := (0 : Int)) rfl trivial) h (fun _ => rfl) (by decide : (3 : Nat) < 4) fun cell σ hE h => ?_
    refine uSeq ?_
    refine st_ifj (fun (cell : Int) => [.im (script : (List Int)), .own (pool : (List Int)), .im (k_ : Int), .im (cell : Int)]) hE (ht_tt (hf_pp hr_lt (hf_var rfl) (hf_lenL (hΓ := rfl)))) h (fun h => ?_) (fun h => ?_) (fun s I H σ hE h => ?_)
    ·
      refine st_setm (Γ' := fun (cell : Int) => [.im (script : (List Int)), .own (pool : (List Int)), .im (k_ : Int), .im (cell : Int)]) hE (hf_ixLp rfl (hf_var rfl)) h (fun _ => rfl) (by decide : (3 : Nat) < 4) fun cell σ hE h => ?_
      exact h _ _ _ (hE.weak (Γ' := [.im (script : (List Int)), .own (pool : (List Int)), .im (k_ : Int), .im (cell : Int)]) ⟨.inr rfl, .inr rfl, .inr rfl, .inr rfl, trivial⟩)
    ·
      refine st_ifj (fun (cell : Int) => [.im (script : (List Int)), .own (pool : (List Int)), .im (k_ : Int), .im (cell : Int)]) hE (ht_tt (hf_pp hr_gt (hf_lenL (hΓ := rfl)) (hf_c (a := (0 : Int)) rfl trivial))) h (fun h => ?_) (fun h => ?_) (fun s I H σ hE h => ?_)
      ·
        refine st_setm (Γ' := fun (cell : Int) => [.im (script : (List Int)), .own (pool : (List Int)), .im (k_ : Int), .im (cell : Int)]) hE (hf_mp (fun _ => hr_mod) (hf_c1m (fun _ => hc_int) (hf_ixL rfl (hf_pp hr_mod (hf_c1p hc_int (hf_var rfl)) (hf_lenL (hΓ := rfl))))) (hf_is (m := (powI (10 : Int) (17 : Int))) (m' := .ok (100000000000000000 : Int)) (hf_pp hr_pow (hf_c (a := (10 : Int)) rfl trivial) (hf_c (a := (17 : Int)) rfl trivial)) (by decide +kernel))) h (fun _ => rfl) (by decide : (3 : Nat) < 4) fun cell σ hE h => ?_
        exact h _ _ _ (hE.weak (Γ' := [.im (script : (List Int)), .own (pool : (List Int)), .im (k_ : Int), .im (cell : Int)]) ⟨.inr rfl, .inr rfl, .inr rfl, .inr rfl, trivial⟩)
      ·
        refine uNext ?_
        exact h _ _ _ (hE.weak (Γ' := [.im (script : (List Int)), .own (pool : (List Int)), .im (k_ : Int), .im (cell : Int)]) ⟨.inr rfl, .inr rfl, .inr rfl, .inr rfl, trivial⟩)
      revert hE h; revert s; intro cell hE h
      exact h _ _ _ (hE.weak (Γ' := [.im (script : (List Int)), .own (pool : (List Int)), .im (k_ : Int), .im (cell : Int)]) ⟨.inr rfl, .inr rfl, .inr rfl, .inr rfl, trivial⟩)
    revert hE h; revert s; intro cell hE h
    refine uSeq ?_
    refine st_ifj (fun (cell : Int) => [.im (script : (List Int)), .own (pool : (List Int)), .im (k_ : Int), .im (cell : Int)]) hE (ht_tt (hf_pp hr_lt (hf_c1p hc_abs (hf_var rfl)) (hf_is (m := (powI (10 : Int) (18 : Int))) (m' := .ok (1000000000000000000 : Int)) (hf_pp hr_pow (hf_c (a := (10 : Int)) rfl trivial) (hf_c (a := (18 : Int)) rfl trivial)) (by decide +kernel)))) h (fun h => ?_) (fun h => ?_) (fun s I H σ hE h => ?_)
    ·
      refine uAsg (uCallS (uCons ?_))
      refine st_push hE (hf_var rfl) fun hE => ?_
      refine uCons ?_
      refine st_push hE (hf_var rfl) fun hE => ?_
      refine uNil ?_
      refine st_call (cell, k_) hE rfl rfl h (fun e x I' H' cls d hm z => x _ H' cls d hm z.clear) fun t5 I H v hE h => ?_
      refine st_store (Γ' := [.im (script : (List Int)), .own (pool : (List Int)), .im (k_ : Int), .im (t5 : Int)]) hE rfl (by decide : (3 : Nat) < 4) fun σ hE => ?_
      exact h _ _ _ (hE.weak (Γ' := [.im (script : (List Int)), .own (pool : (List Int)), .im (k_ : Int), .im (t5 : Int)]) ⟨.inr rfl, .inr rfl, .inr rfl, .inr rfl, trivial⟩)
    ·
      refine uNext ?_
      exact h _ _ _ (hE.weak (Γ' := [.im (script : (List Int)), .own (pool : (List Int)), .im (k_ : Int), .im (cell : Int)]) ⟨.inr rfl, .inr rfl, .inr rfl, .inr rfl, trivial⟩)
    revert hE h; revert s; intro cell hE h
    refine uDrop ?_
    refine st_bmO (i := 1) hE rfl fun l5 hl_l5 => ?_
    refine uCons ?_
    refine st_pushm hE (hf_pp hr_mod (hf_c1p hc_int (hf_var rfl)) (hf_is (m := (powI (1000000000000000000000000000000000000000000000000000000000000 : Int) (6 : Int))) (m' := .ok (1000000000000000000000000000000000000000000000000000000000000000000000000000000000000000000000000000000000000000000000000000000000000000000000000000000000000000000000000000000000000000000000000000000000000000000000000000000000000000000000000000000000000000000000000000000000000000000000000000000000000000000000000000000000000000000000000000000000000000000000000 : Int)) (hf_pp hr_pow (hf_is (m := (powI (10 : Int) (60 : Int))) (m' := .ok (1000000000000000000000000000000000000000000000000000000000000 : Int)) (hf_pp hr_pow (hf_c (a := (10 : Int)) rfl trivial) (hf_c (a := (60 : Int)) rfl trivial)) (by decide +kernel)) (hf_c (a := (6 : Int)) rfl trivial)) (by decide +kernel))) h fun t7 hE h => ?_
    refine uNil ?_
    refine st_app (i := 1) hE hl_l5 rfl h fun pool H hE h => ?_
    replace hE : Env K _ _ _ [.im (script : (List Int)), .own (pool : (List Int)), .im (k_ : Int), .im (cell : Int)] _ _ := hE
    exact h _ _ _ (hE.weak (Γ' := [.im (script : (List Int)), .own (pool : (List Int)), .any, .any]) ⟨.inr rfl, .inr rfl, .inl rfl, .inl rfl, trivial⟩)
  revert hE h; revert s; intro pool hE h
  exact st_retO (i := 1) hE rfl h

theorem ok_law_draw (T : Txt Pg w K mg) : FnOk Pg w K mg base (L2N.CX Pg w) 1 T.a_law_draw T.d_law_draw ["pool", "k", "many"] (SpO K mg 2 (fun (a : Int × Int) => [.im a.1, .im a.2]) (fun s a => m_law_draw s a.1 a.2) (fun b => .im b)) := by
  refine okN T.F_law_draw sc_law_draw (fun vs H Q E h => h.1) fun cdv A outer s H vs Q E hr h => ?_
  obtain ⟨hl, pool, ⟨k_, many⟩, I, ρ, Θ, hE, h⟩ := h
  obtain ⟨v0, vs, rfl⟩ : ∃ v0 vs1, vs = v0 :: vs1 := by cases vs with | nil => simp at hl | cons v0 vs => exact ⟨v0, vs, rfl⟩
  have hE : Env K I H (start N_law_draw (v0 :: vs)) [.own (pool : (List Int)) (some v0), .im (k_ : Int), .im (many : Int), .any] ρ Θ := st_start hE (by rw [hl]; first | rfl | done)
  refine ⟨_, (pss_cons (ps_set (i := 3) sc_law_draw.nd rfl (.inl rfl) (pe_op op_mod (pe_callTy call_int1 (by rfl) T.z_int (by decide +kernel) (pa_cons (pe_ix ix_list (pv 0) (pv 1) (fun _ _ => rfl)) pa_nil)) (pv 2)))
      (pss_cons (ps_asg (pe_op op_fdivW (pe_ix ix_list (pv 0) (pv 1) (fun _ _ => rfl)) (pv 2)) (pg_sub (pv 0) (pv 1) set_list))
      (pss_one (ps_ret (pv 3))))), ?_⟩
  generalize start N_law_draw (v0 :: vs) = σ at hE ⊢
  change wp (m_law_draw pool k_ many) _ _ at h
  unfold m_law_draw at h
  refine uSeq ?_
  refine st_setm (Γ' := fun (digit : Int) => [.own (pool : (List Int)) (some v0), .im (k_ : Int), .im (many : Int), .im (digit : Int)]) hE (hf_mp (fun _ => hr_mod) (hf_c1m (fun _ => hc_int) (hf_ixOp rfl (hf_var rfl))) (hf_var rfl)) h (fun _ => rfl) (by decide : (3 : Nat) < 4) fun digit σ hE h => ?_
  refine uSeq (uAsg ?_)
  refine st_pushm hE (hf_mp (fun _ => hr_div) (hf_ixOp rfl (hf_var rfl)) (hf_var rfl)) h fun t4 hE h => ?_
  refine st_setLp (i := 0) (Γ' := fun (pool : (List Int)) => [.own (pool : (List Int)) (some v0), .im (k_ : Int), .im (many : Int), .im (digit : Int)]) hE rfl (hf_var rfl) h (fun _ => rfl) fun pool H hE h => ?_
  refine uRet ?_
  refine st_push hE (hf_var rfl) fun hE => ?_
  exact h _ _ _ hE.only0

theorem ok_law_word (T : Txt Pg w K mg) : FnOk Pg w K mg base (L2N.CX Pg w) 2 T.a_law_word T.d_law_word ["pool", "k", "kinds", "size"] (SpO K mg 3 (fun (a : Int × Tx × Int) => [.im a.1, .im a.2.1, .im a.2.2]) (fun s a => m_law_word s a.1 a.2.1 a.2.2) (fun b => .im b)) := by
  refine okN T.F_law_word sc_law_word (fun vs H Q E h => h.1) fun cdv A outer s H vs Q E hr h => ?_
  obtain ⟨hl, pool, ⟨k_, kinds, size⟩, I, ρ, Θ, hE, h⟩ := h
  obtain ⟨v0, vs, rfl⟩ : ∃ v0 vs1, vs = v0 :: vs1 := by cases vs with | nil => simp at hl | cons v0 vs => exact ⟨v0, vs, rfl⟩
  have hE : Env K I H (start N_law_word (v0 :: vs)) [.own (pool : (List Int)) (some v0), .im (k_ : Int), .im (kinds : Tx), .im (size : Int), .any, .any] ρ Θ := st_start hE (by rw [hl]; first | rfl | done)
  refine ⟨_, (pss_cons (ps_setLc (i := 4) (own := [("place", 5)]) (g := gName 5) (by rfl) sc_law_word.nd rfl rfl (sw_true rfl rfl rfl (by decide +kernel)) (pi_range1 (by rfl) T.z_range (pa_cons (pv 3) pa_nil)) (blkOk_by (N := N_law_word) (sc := defScope s_law_word) (by decide +kernel)) (fun _ _ _ _ _ => pg_name (i := 5) sc_law_word.nd rfl (.inl rfl)) (fun _ _ _ _ _ => pts_nil) (fun _ _ _ _ _ => (pe_ix ix_str (pv 2) (pe_callS (ok_law_draw (base := base) T) (hr.mono (by decide)) (by rfl) T.g_law_draw T.F_law_draw.kp T.b_law_draw (fun σ => L2N.passAt takesN0 σ) (pa_cons (pv 0) (pa_cons (pv 1) (pa_cons (pe_callB call_len_str (by rfl) T.z_len PySem.boot_len (pa_cons (pv 2) pa_nil)) pa_nil)))) (fun _ _ => rfl))))
      (pss_one (ps_ret (pe_join pe_str (pv 4))))), ?_⟩
  generalize start N_law_word (v0 :: vs) = σ at hE ⊢
  change wp (m_law_word pool k_ kinds size) _ _ at h
  unfold m_law_word at h
  refine uSeq (uAsg (uLc ?_))
  refine it_rng1 hE (hf_var rfl) h fun xs1 h J hJ => ?_
  refine st_lcs (α := Int) (β := Tx) (S := (List Int)) (i := 5) (fun (z : (List Int)) => [.own (z : (List Int)) (some v0), .im (k_ : Int), .im (kinds : Tx), .im (size : Int), .any, .any]) hJ hE (fun _ => rfl) h (fun ysl ysr I H v hE h => ?_) (fun place s2 I H σ ρ' Θ' Qe hE h => ?_)
  rotate_left 1
  ·
    replace hE : Env K _ _ _ [.own (s2 : (List Int)) (some v0), .im (k_ : Int), .im (kinds : Tx), .im (size : Int), .any, .im (place : Int)] _ _ := hE
    refine uOp ?_
    refine st_push hE (hf_var rfl) fun hE => ?_
    refine uCallS (uCons ?_)
    refine st_varO (i := 0) hE rfl fun va h0_2 => ?_
    refine uCons ?_
    refine st_push hE (hf_var rfl) fun hE => ?_
    refine uCons ?_
    refine st_push hE (hf_c1p hc_lenT (hf_var rfl)) fun hE => ?_
    refine uNil ?_
    refine st_callOX (i := 0) (k_, ((kinds.length : Nat) : Int)) rfl h0_2 hE rfl rfl h  fun t4 I H v hE h => ?_
    refine st_op2 hE hr_getT h fun t5 v hE h => ?_
    exact h _ _ _ hE
  obtain ⟨ys6, eys6⟩ : ∃ y : List Tx × (List Int), y = (ysl, ysr) := ⟨_, rfl⟩
  rw [← eys6] at h
  have elys6 : ysl = ys6.1 := by rw [eys6]
  have erys6 : ysr = ys6.2 := by rw [eys6]
  subst elys6 erys6
  replace hE : Env K _ _ _ [.own (ys6.2 : (List Int)) (some v0), .im (k_ : Int), .im (kinds : Tx), .im (size : Int), .any, .any] _ _ := hE
  refine st_freezeT hE fun I hE => ?_
  refine st_store (Γ' := [.own (ys6.2 : (List Int)) (some v0), .im (k_ : Int), .im (kinds : Tx), .im (size : Int), .im (ys6.1 : (List Tx)), .any]) hE rfl (by decide : (4 : Nat) < 6) fun σ hE => ?_
  refine uRet (uJoin ?_)
  refine st_push hE (hf_c (a := ([] : Tx)) (by decide +kernel) (by decide : (0 : Nat) ≤ line)) fun hE => ?_
  refine ⟨st_joinA hE, ?_⟩
  refine st_var hE (i := 4) rfl fun v hE => ?_
  refine st_join hE h fun t7 v hE h => ?_
  exact h _ _ _ hE.only0

theorem ok_law_first (T : Txt Pg w K mg) : FnOk Pg w K mg base (L2N.CX Pg w) 3 T.a_law_first T.d_law_first ["pool", "kinds"] (SpO K mg 1 (fun (a : Tx) => [.im a]) (fun s a => m_law_first s a) (fun b => .im b)) := by
  refine okN T.F_law_first sc_law_first (fun vs H Q E h => h.1) fun cdv A outer s H vs Q E hr h => ?_
  obtain ⟨hl, pool, kinds, I, ρ, Θ, hE, h⟩ := h
  obtain ⟨v0, vs, rfl⟩ : ∃ v0 vs1, vs = v0 :: vs1 := by cases vs with | nil => simp at hl | cons v0 vs => exact ⟨v0, vs, rfl⟩
  have hE : Env K I H (start N_law_first (v0 :: vs)) [.own (pool : (List Int)) (some v0), .im (kinds : Tx), .any, .any, .any, .any] ρ Θ := st_start hE (by rw [hl]; first | rfl | done)
  refine ⟨_, (pss_cons (ps_set (i := 2) sc_law_first.nd rfl (.inl rfl) (pe_callS (ok_law_word (base := base) T) (hr.mono (by decide)) (by rfl) T.g_law_word T.F_law_word.kp T.b_law_word (fun σ => L2N.passAt (L2N.takes_of rfl rfl rfl rfl) σ) (pa_cons (pv 0) (pa_cons pe_int (pa_cons (pv 1) (pa_cons (pe_callS (ok_law_draw (base := base) T) (hr.mono (by decide)) (by rfl) T.g_law_draw T.F_law_draw.kp T.b_law_draw (fun σ => L2N.passAt (L2N.takes_of rfl rfl rfl rfl) σ) (pa_cons (pv 0) (pa_cons pe_int (pa_cons pe_int pa_nil)))) pa_nil))))))
      (pss_cons (ps_set (i := 3) sc_law_first.nd rfl (.inl rfl) (pe_op op_rep_str (pv 2) (pe_op op_add pe_int (pe_callS (ok_law_draw (base := base) T) (hr.mono (by decide)) (by rfl) T.g_law_draw T.F_law_draw.kp T.b_law_draw (fun σ => L2N.passAt (L2N.takes_of rfl rfl rfl rfl) σ) (pa_cons (pv 0) (pa_cons pe_int (pa_cons (pe_op op_fdivW pe_int (pe_callB (call_max2 rfl) (by rfl) T.z_max (by decide +kernel) (pa_cons pe_int (pa_cons (pe_callB call_len_str (by rfl) T.z_len PySem.boot_len (pa_cons (pv 2) pa_nil)) pa_nil)))) pa_nil)))))))
      (pss_cons (ps_if (pt_cmpR op_eq (pe_callS (ok_law_draw (base := base) T) (hr.mono (by decide)) (by rfl) T.g_law_draw T.F_law_draw.kp T.b_law_draw (fun σ => L2N.passAt (L2N.takes_of rfl rfl rfl rfl) σ) (pa_cons (pv 0) (pa_cons pe_int (pa_cons pe_int pa_nil)))) pe_int (nomark _)) (pss_cons (ps_set (i := 2) sc_law_first.nd rfl (.inl rfl) (pe_callS (ok_law_word (base := base) T) (hr.mono (by decide)) (by rfl) T.g_law_word T.F_law_word.kp T.b_law_word (fun σ => L2N.passAt (L2N.takes_of rfl rfl rfl rfl) σ) (pa_cons (pv 0) (pa_cons pe_int (pa_cons (pv 1) (pa_cons (pe_op op_add pe_int (pe_callS (ok_law_draw (base := base) T) (hr.mono (by decide)) (by rfl) T.g_law_draw T.F_law_draw.kp T.b_law_draw (fun σ => L2N.passAt (L2N.takes_of rfl rfl rfl rfl) σ) (pa_cons (pv 0) (pa_cons pe_int (pa_cons pe_int pa_nil))))) pa_nil))))))
      (pss_one (ps_set (i := 3) sc_law_first.nd rfl (.inl rfl) (pe_slice sl_str (pe_op op_rep_str (pv 2) pe_int) po_none (po_some (pe_op op_sub pe_int (pe_op op_mulW (pe_callS (ok_law_draw (base := base) T) (hr.mono (by decide)) (by rfl) T.g_law_draw T.F_law_draw.kp T.b_law_draw (fun σ => L2N.passAt (L2N.takes_of rfl rfl rfl rfl) σ) (pa_cons (pv 0) (pa_cons pe_int (pa_cons pe_int pa_nil)))) (pe_callS (ok_law_draw (base := base) T) (hr.mono (by decide)) (by rfl) T.g_law_draw T.F_law_draw.kp T.b_law_draw (fun σ => L2N.passAt (L2N.takes_of rfl rfl rfl rfl) σ) (pa_cons (pv 0) (pa_cons pe_int (pa_cons pe_int pa_nil))))))))))) pss_nil)
      (pss_cons (ps_if (PW.pt (pw_and (pt_cmpR op_ne (pv 3) pe_str (nomark _)) (pw_and1 (pt_cmpR op_eq (pe_callS (ok_law_draw (base := base) T) (hr.mono (by decide)) (by rfl) T.g_law_draw T.F_law_draw.kp T.b_law_draw (fun σ => L2N.passAt (L2N.takes_of rfl rfl rfl rfl) σ) (pa_cons (pv 0) (pa_cons pe_int (pa_cons pe_int pa_nil)))) pe_int (nomark _))))) (pss_cons (ps_set (i := 4) sc_law_first.nd rfl (.inl rfl) (pe_callS (ok_law_draw (base := base) T) (hr.mono (by decide)) (by rfl) T.g_law_draw T.F_law_draw.kp T.b_law_draw (fun σ => L2N.passAt (L2N.takes_of rfl rfl rfl rfl) σ) (pa_cons (pv 0) (pa_cons pe_int (pa_cons (pe_callB call_len_str (by rfl) T.z_len PySem.boot_len (pa_cons (pv 3) pa_nil)) pa_nil)))))
      (pss_cons (ps_set (i := 5) sc_law_first.nd rfl (.inl rfl) (pe_ix ix_str (pv 1) (pe_callS (ok_law_draw (base := base) T) (hr.mono (by decide)) (by rfl) T.g_law_draw T.F_law_draw.kp T.b_law_draw (fun σ => L2N.passAt (L2N.takes_of rfl rfl rfl rfl) σ) (pa_cons (pv 0) (pa_cons pe_int (pa_cons (pe_callB call_len_str (by rfl) T.z_len PySem.boot_len (pa_cons (pv 1) pa_nil)) pa_nil)))) (fun _ _ => rfl)))
      (pss_one (ps_set (i := 3) sc_law_first.nd rfl (.inl rfl) (pe_op op_add_str (pe_op op_add_str (pe_slice sl_str (pv 3) po_none (po_some (pv 4))) (pv 5)) (pe_slice sl_str (pv 3) (po_some (pe_op op_add (pv 4) pe_int)) po_none)))))) pss_nil)
      (pss_one (ps_ret (pe_lst (pa_cons (pv 2) (pa_cons (pv 3) pa_nil))))))))), ?_⟩
  generalize start N_law_first (v0 :: vs) = σ at hE ⊢
  change wp (m_law_first pool kinds) _ _ at h
  unfold m_law_first at h
  refine uSeq (uAsg (uCallS (uCons ?_)))
  refine st_varO (i := 0) hE rfl fun va h0_0 => ?_
  refine uCons ?_
  refine st_push hE (hf_c (a := (2 : Int)) rfl trivial) fun hE => ?_
  refine uCons ?_
  refine st_push hE (hf_var rfl) fun hE => ?_
  refine uCons (uCallS (uCons ?_))
  refine st_varO (i := 0) hE rfl fun va h0_1 => ?_
  refine uCons ?_
  refine st_push hE (hf_c (a := (1 : Int)) rfl trivial) fun hE => ?_
  refine uCons ?_
  refine st_push hE (hf_c (a := (7 : Int)) rfl trivial) fun hE => ?_
  refine uNil ?_
  refine st_callO (i := 0) ((1 : Int), (7 : Int)) rfl h0_1 hE rfl rfl h (fun e x I' H' cls d hm z => x _ H' cls d hm z.clear.nip.nip) fun t3 I H v hE h => ?_
  refine uNil ?_
  refine st_callO (i := 0) ((2 : Int), kinds, t3.1) rfl h0_0 hE rfl rfl h (fun e x I' H' cls d hm z => x _ H' cls d hm z.clear) fun t4 I H v hE h => ?_
  refine st_store (Γ' := [.own (t4.2 : (List Int)) (some v0), .im (kinds : Tx), .im (t4.1 : Tx), .any, .any, .any]) hE rfl (by decide : (2 : Nat) < 6) fun σ hE => ?_
  refine uSeq (uAsg (uOp ?_))
  refine st_push hE (hf_var rfl) fun hE => ?_
  refine uOp ?_
  refine st_push hE (hf_c (a := (1 : Int)) rfl trivial) fun hE => ?_
  refine uCallS (uCons ?_)
  refine st_varO (i := 0) hE rfl fun va h0_4 => ?_
  refine uCons ?_
  refine st_push hE (hf_c (a := (1 : Int)) rfl trivial) fun hE => ?_
  refine uCons ?_
  refine st_pushm hE (hf_pp hr_div (hf_c (a := (12 : Int)) rfl trivial) (hf_c2p hc_max (hf_c (a := (1 : Int)) rfl trivial) (hf_c1p hc_lenT (hf_var rfl)))) h fun t6 hE h => ?_
  refine uNil ?_
  refine st_callO (i := 0) ((1 : Int), t6) rfl h0_4 hE rfl rfl h (fun e x I' H' cls d hm z => x _ H' cls d hm z.clear.nip.nip) fun t7 I H v hE h => ?_
  refine st_op2 hE hr_add h fun t8 v hE h => ?_
  refine st_op2 hE hr_repT h fun t9 v hE h => ?_
  refine st_store (Γ' := [.own (t7.2 : (List Int)) (some v0), .im (kinds : Tx), .im (t4.1 : Tx), .im (t9 : Tx), .any, .any]) hE rfl (by decide : (3 : Nat) < 6) fun σ hE => ?_
  refine uSeq (uIf (uTest (uOp (uCallS (uCons ?_)))))
  refine st_varO (i := 0) hE rfl fun va h0_9 => ?_
  refine uCons ?_
  refine st_push hE (hf_c (a := (1 : Int)) rfl trivial) fun hE => ?_
  refine uCons ?_
  refine st_push hE (hf_c (a := (8 : Int)) rfl trivial) fun hE => ?_
  refine uNil ?_
  refine st_callO (i := 0) ((1 : Int), (8 : Int)) rfl h0_9 hE rfl rfl h (fun e x I' H' cls d hm z => x _ H' cls d hm z.clear) fun t11 I H v hE h => ?_
  refine st_push hE (hf_c (a := (1 : Int)) rfl trivial) fun hE => ?_
  refine st_op2p hE hr_eqI fun v hE => ?_
  refine st_vb hE fun hE => ?_
  refine st_itej hE (fun (s : (List Int) × Tx × Tx) => match s with | (pool, base_, word) => [.own (pool : (List Int)) (some v0), .im (kinds : Tx), .im (base_ : Tx), .im (word : Tx), .any, .any]) h (fun h => ?_) (fun h => ?_) (fun s I H σ hE h => ?_)
  ·
    refine uSeq (uAsg (uCallS (uCons ?_)))
    refine st_varO (i := 0) hE rfl fun va h0_11 => ?_
    refine uCons ?_
    refine st_push hE (hf_c (a := (2 : Int)) rfl trivial) fun hE => ?_
    refine uCons ?_
    refine st_push hE (hf_var rfl) fun hE => ?_
    refine uCons (uOp ?_)
    refine st_push hE (hf_c (a := (1 : Int)) rfl trivial) fun hE => ?_
    refine uCallS (uCons ?_)
    refine st_varO (i := 0) hE rfl fun va h0_12 => ?_
    refine uCons ?_
    refine st_push hE (hf_c (a := (1 : Int)) rfl trivial) fun hE => ?_
    refine uCons ?_
    refine st_push hE (hf_c (a := (30 : Int)) rfl trivial) fun hE => ?_
    refine uNil ?_
    refine st_callO (i := 0) ((1 : Int), (30 : Int)) rfl h0_12 hE rfl rfl h (fun e x I' H' cls d hm z => x _ H' cls d hm z.clear.nip.nip.nip) fun t14 I H v hE h => ?_
    refine st_op2 hE hr_add h fun t15 v hE h => ?_
    refine uNil ?_
    refine st_callO (i := 0) ((2 : Int), kinds, t15) rfl h0_11 hE rfl rfl h (fun e x I' H' cls d hm z => x _ H' cls d hm z.clear) fun t16 I H v hE h => ?_
    refine st_store (Γ' := [.own (t16.2 : (List Int)) (some v0), .im (kinds : Tx), .im (t16.1 : Tx), .im (t9 : Tx), .any, .any]) hE rfl (by decide : (2 : Nat) < 6) fun σ hE => ?_
    refine uAsg (uSl ?_)
    refine st_pushm hE (hf_pp hr_repT (hf_var rfl) (hf_c (a := (60 : Int)) rfl trivial)) h fun t17 hE h => ?_
    refine st_bdp hE ho_none ?_
    refine uPart (uOp ?_)
    refine st_push hE (hf_c (a := (60 : Int)) rfl trivial) fun hE => ?_
    refine uOp (uCallS (uCons ?_))
    refine st_varO (i := 0) hE rfl fun va h0_17 => ?_
    refine uCons ?_
    refine st_push hE (hf_c (a := (1 : Int)) rfl trivial) fun hE => ?_
    refine uCons ?_
    refine st_push hE (hf_c (a := (2 : Int)) rfl trivial) fun hE => ?_
    refine uNil ?_
    refine st_callO (i := 0) ((1 : Int), (2 : Int)) rfl h0_17 hE rfl rfl h (fun e x I' H' cls d hm z => x _ H' cls d hm z.clear.nip.nip) fun t19 I H v hE h => ?_
    refine uCallS (uCons ?_)
    refine st_varO (i := 0) hE rfl fun va h0_19 => ?_
    refine uCons ?_
    refine st_push hE (hf_c (a := (1 : Int)) rfl trivial) fun hE => ?_
    refine uCons ?_
    refine st_push hE (hf_c (a := (48 : Int)) rfl trivial) fun hE => ?_
    refine uNil ?_
    refine st_callO (i := 0) ((1 : Int), (48 : Int)) rfl h0_19 hE rfl rfl h (fun e x I' H' cls d hm z => x _ H' cls d hm z.clear.nip.nip.nip) fun t21 I H v hE h => ?_
    refine st_op2 hE hr_mul h fun t22 v hE h => ?_
    refine st_op2 hE hr_sub h fun t23 v hE h => ?_
    refine st_bd hE fun hE => ?_
    refine st_slT hE fun v hE => ?_
    refine st_name hE h fun word hE h => ?_
    refine st_store (Γ' := [.own (t21.2 : (List Int)) (some v0), .im (kinds : Tx), .im (t16.1 : Tx), .im (word : Tx), .any, .any]) hE rfl (by decide : (3 : Nat) < 6) fun σ hE => ?_
    exact h _ _ _ (hE.weak (Γ' := [.own (t21.2 : (List Int)) (some v0), .im (kinds : Tx), .im (t16.1 : Tx), .im (word : Tx), .any, .any]) ⟨.inr rfl, .inr rfl, .inr rfl, .inr rfl, .inl rfl, .inl rfl, trivial⟩)
  ·
    refine uNext ?_
    exact h _ _ _ (hE.weak (Γ' := [.own (t11.2 : (List Int)) (some v0), .im (kinds : Tx), .im (t4.1 : Tx), .im (t9 : Tx), .any, .any]) ⟨.inr rfl, .inr rfl, .inr rfl, .inr rfl, .inl rfl, .inl rfl, trivial⟩)
  obtain ⟨pool, base_, word⟩ := s
  refine uSeq (uIf ?_)
  refine st_tj hE (fun (s : (List Int)) => match s with | pool_ => [.own (pool_ : (List Int)) (some v0), .im (kinds : Tx), .im (base_ : Tx), .im (word : Tx), .any, .any]) h (fun h => ?_) (fun b26 s I H hE h => ?_)
  ·
    refine uAnd ?_
    refine st_htp hE (ht_tt (hf_pp hr_neT (hf_var rfl) (hf_c (a := ([] : Tx)) (by decide +kernel) (by decide : (0 : Nat) ≤ line)))) ?_
    refine st_ite h (fun h => ?_) (fun h => ?_)
    ·
      refine uTest (uOp (uCallS (uCons ?_)))
      refine st_varO (i := 0) hE rfl fun va h0_23 => ?_
      refine uCons ?_
      refine st_push hE (hf_c (a := (1 : Int)) rfl trivial) fun hE => ?_
      refine uCons ?_
      refine st_push hE (hf_c (a := (3 : Int)) rfl trivial) fun hE => ?_
      refine uNil ?_
      refine st_callO (i := 0) ((1 : Int), (3 : Int)) rfl h0_23 hE rfl rfl h (fun e x I' H' cls d hm z => x _ H' cls d hm z.clear) fun t25 I H v hE h => ?_
      refine st_push hE (hf_c (a := (1 : Int)) rfl trivial) fun hE => ?_
      refine st_op2p hE hr_eqI fun v hE => ?_
      refine st_vb hE fun hE => ?_
      exact h _ _ hE
    ·
      exact h _ _ hE
  revert hE h; revert s; intro pool_ hE h
  refine st_itej hE (fun (s : (List Int) × Tx) => match s with | (pool, word) => [.own (pool : (List Int)) (some v0), .im (kinds : Tx), .im (base_ : Tx), .im (word : Tx), .any, .any]) h (fun h => ?_) (fun h => ?_) (fun s I H σ hE h => ?_)
  ·
    refine uSeq (uAsg (uCallS (uCons ?_)))
    refine st_varO (i := 0) hE rfl fun va h0_26 => ?_
    refine uCons ?_
    refine st_push hE (hf_c (a := (3 : Int)) rfl trivial) fun hE => ?_
    refine uCons ?_
    refine st_push hE (hf_c1p hc_lenT (hf_var rfl)) fun hE => ?_
    refine uNil ?_
    refine st_callO (i := 0) ((3 : Int), ((word.length : Nat) : Int)) rfl h0_26 hE rfl rfl h (fun e x I' H' cls d hm z => x _ H' cls d hm z.clear) fun t28 I H v hE h => ?_
    refine st_store (Γ' := [.own (t28.2 : (List Int)) (some v0), .im (kinds : Tx), .im (base_ : Tx), .im (word : Tx), .im (t28.1 : Int), .any]) hE rfl (by decide : (4 : Nat) < 6) fun σ hE => ?_
    refine uSeq (uAsg (uOp ?_))
    refine st_push hE (hf_var rfl) fun hE => ?_
    refine uCallS (uCons ?_)
    refine st_varO (i := 0) hE rfl fun va h0_28 => ?_
    refine uCons ?_
    refine st_push hE (hf_c (a := (3 : Int)) rfl trivial) fun hE => ?_
    refine uCons ?_
    refine st_push hE (hf_c1p hc_lenT (hf_var rfl)) fun hE => ?_
    refine uNil ?_
    refine st_callO (i := 0) ((3 : Int), ((kinds.length : Nat) : Int)) rfl h0_28 hE rfl rfl h (fun e x I' H' cls d hm z => x _ H' cls d hm z.clear.nip) fun t30 I H v hE h => ?_
    refine st_op2 hE hr_getT h fun t31 v hE h => ?_
    refine st_store (Γ' := [.own (t30.2 : (List Int)) (some v0), .im (kinds : Tx), .im (base_ : Tx), .im (word : Tx), .im (t28.1 : Int), .im (t31 : Tx)]) hE rfl (by decide : (5 : Nat) < 6) fun σ hE => ?_
    refine st_setm (Γ' := fun (word : Tx) => [.own (t30.2 : (List Int)) (some v0), .im (kinds : Tx), .im (base_ : Tx), .im (word : Tx), .im (t28.1 : Int), .im (t31 : Tx)]) hE (hf_mp (fun _ => hr_catT) (hf_pp hr_catT (hf_cut_p (hf_var rfl) ho_none (ho_p (hf_var rfl))) (hf_var rfl)) (hf_cut_p (hf_var rfl) (ho_p (hf_pp hr_add (hf_var rfl) (hf_c (a := (1 : Int)) rfl trivial))) ho_none)) h (fun _ => rfl) (by decide : (3 : Nat) < 6) fun word σ hE h => ?_
    exact h _ _ _ (hE.weak (Γ' := [.own (t30.2 : (List Int)) (some v0), .im (kinds : Tx), .im (base_ : Tx), .im (word : Tx), .any, .any]) ⟨.inr rfl, .inr rfl, .inr rfl, .inr rfl, .inl rfl, .inl rfl, trivial⟩)
  ·
    refine uNext ?_
    exact h _ _ _ (hE.weak (Γ' := [.own (pool_ : (List Int)) (some v0), .im (kinds : Tx), .im (base_ : Tx), .im (word : Tx), .any, .any]) ⟨.inr rfl, .inr rfl, .inr rfl, .inr rfl, .inl rfl, .inl rfl, trivial⟩)
  obtain ⟨pool, word⟩ := s
  refine uRet (uLst (uCons ?_))
  refine st_push hE (hf_var rfl) fun hE => ?_
  refine uCons ?_
  refine st_push hE (hf_var rfl) fun hE => ?_
  refine uNil ?_
  refine st_lstI (α := Tx) _ [base_, word] rfl (by decide : (2 : Nat) ≤ line) hE fun I H v hE => ?_
  exact h _ _ _ hE.only0

theorem ok_law_second (T : Txt Pg w K mg) : FnOk Pg w K mg base (L2N.CX Pg w) 3 T.a_law_second T.d_law_second ["pool", "kinds", "base", "word"] (SpO K mg 3 (fun (a : Tx × Tx × Tx) => [.im a.1, .im a.2.1, .im a.2.2]) (fun s a => m_law_second s a.1 a.2.1 a.2.2) (fun b => .im b)) := by
  refine okN T.F_law_second sc_law_second (fun vs H Q E h => h.1) fun cdv A outer s H vs Q E hr h => ?_
  obtain ⟨hl, pool, ⟨kinds, base_, word⟩, I, ρ, Θ, hE, h⟩ := h
  obtain ⟨v0, vs, rfl⟩ : ∃ v0 vs1, vs = v0 :: vs1 := by cases vs with | nil => simp at hl | cons v0 vs => exact ⟨v0, vs, rfl⟩
  have hE : Env K I H (start N_law_second (v0 :: vs)) [.own (pool : (List Int)) (some v0), .im (kinds : Tx), .im (base_ : Tx), .im (word : Tx), .any] ρ Θ := st_start hE (by rw [hl]; first | rfl | done)
  refine ⟨_, (pss_cons (ps_set (i := 4) sc_law_second.nd rfl (.inl rfl) (pe_callS (ok_law_draw (base := base) T) (hr.mono (by decide)) (by rfl) T.g_law_draw T.F_law_draw.kp T.b_law_draw (fun σ => L2N.passAt (L2N.takes_of rfl rfl rfl rfl) σ) (pa_cons (pv 0) (pa_cons pe_int (pa_cons pe_int pa_nil)))))
      (pss_cons (ps_if (pt_cmpR op_eq (pv 4) pe_int (nomark _)) (pss_one (ps_ret (pe_op op_rep_str (pv 2) (pe_callS (ok_law_draw (base := base) T) (hr.mono (by decide)) (by rfl) T.g_law_draw T.F_law_draw.kp T.b_law_draw (fun σ => L2N.passAt (L2N.takes_of rfl rfl rfl rfl) σ) (pa_cons (pv 0) (pa_cons pe_int (pa_cons (pe_op op_add pe_int (pe_op op_fdivW pe_int (pe_callB (call_max2 rfl) (by rfl) T.z_max (by decide +kernel) (pa_cons pe_int (pa_cons (pe_callB call_len_str (by rfl) T.z_len PySem.boot_len (pa_cons (pv 2) pa_nil)) pa_nil))))) pa_nil))))))) pss_nil)
      (pss_cons (ps_if (pt_cmpR op_eq (pv 4) pe_int (nomark _)) (pss_one (ps_ret (pe_callS (ok_law_word (base := base) T) (hr.mono (by decide)) (by rfl) T.g_law_word T.F_law_word.kp T.b_law_word (fun σ => L2N.passAt (L2N.takes_of rfl rfl rfl rfl) σ) (pa_cons (pv 0) (pa_cons pe_int (pa_cons (pv 1) (pa_cons (pe_callS (ok_law_draw (base := base) T) (hr.mono (by decide)) (by rfl) T.g_law_draw T.F_law_draw.kp T.b_law_draw (fun σ => L2N.passAt (L2N.takes_of rfl rfl rfl rfl) σ) (pa_cons (pv 0) (pa_cons pe_int (pa_cons pe_int pa_nil)))) pa_nil))))))) pss_nil)
      (pss_cons (ps_if (pt_cmpR op_eq (pv 4) pe_int (nomark _)) (pss_one (ps_ret pe_str)) pss_nil)
      (pss_one (ps_ret (pv 3))))))), ?_⟩
  generalize start N_law_second (v0 :: vs) = σ at hE ⊢
  change wp (m_law_second pool kinds base_ word) _ _ at h
  unfold m_law_second at h
  refine uSeq (uAsg (uCallS (uCons ?_)))
  refine st_varO (i := 0) hE rfl fun va h0_0 => ?_
  refine uCons ?_
  refine st_push hE (hf_c (a := (4 : Int)) rfl trivial) fun hE => ?_
  refine uCons ?_
  refine st_push hE (hf_c (a := (4 : Int)) rfl trivial) fun hE => ?_
  refine uNil ?_
  refine st_callO (i := 0) ((4 : Int), (4 : Int)) rfl h0_0 hE rfl rfl h (fun e x I' H' cls d hm z => x _ H' cls d hm z.clear) fun t2 I H v hE h => ?_
  refine st_store (Γ' := [.own (t2.2 : (List Int)) (some v0), .im (kinds : Tx), .im (base_ : Tx), .im (word : Tx), .im (t2.1 : Int)]) hE rfl (by decide : (4 : Nat) < 5) fun σ hE => ?_
  refine uSeq ?_
  refine st_if hE (ht_tt (hf_pp hr_eqI (hf_var rfl) (hf_c (a := (0 : Int)) rfl trivial))) h (fun h => ?_) (fun h => ?_)
  ·
    refine uRet (uOp ?_)
    refine st_push hE (hf_var rfl) fun hE => ?_
    refine uCallS (uCons ?_)
    refine st_varO (i := 0) hE rfl fun va h0_2 => ?_
    refine uCons ?_
    refine st_push hE (hf_c (a := (4 : Int)) rfl trivial) fun hE => ?_
    refine uCons ?_
    refine st_pushm hE (hf_pm (fun _ => hr_add) (hf_c (a := (1 : Int)) rfl trivial) (hf_pp hr_div (hf_c (a := (60 : Int)) rfl trivial) (hf_c2p hc_max (hf_c (a := (1 : Int)) rfl trivial) (hf_c1p hc_lenT (hf_var rfl))))) h fun t5 hE h => ?_
    refine uNil ?_
    refine st_callO (i := 0) ((4 : Int), t5) rfl h0_2 hE rfl rfl h (fun e x I' H' cls d hm z => x _ H' cls d hm z.clear.nip) fun t6 I H v hE h => ?_
    refine st_op2 hE hr_repT h fun t7 v hE h => ?_
    exact h _ _ _ hE.only0
  ·
    refine uNext (uSeq ?_)
    refine st_if hE (ht_tt (hf_pp hr_eqI (hf_var rfl) (hf_c (a := (1 : Int)) rfl trivial))) h (fun h => ?_) (fun h => ?_)
    ·
      refine uRet (uCallS (uCons ?_))
      refine st_varO (i := 0) hE rfl fun va h0_7 => ?_
      refine uCons ?_
      refine st_push hE (hf_c (a := (4 : Int)) rfl trivial) fun hE => ?_
      refine uCons ?_
      refine st_push hE (hf_var rfl) fun hE => ?_
      refine uCons (uCallS (uCons ?_))
      refine st_varO (i := 0) hE rfl fun va h0_8 => ?_
      refine uCons ?_
      refine st_push hE (hf_c (a := (4 : Int)) rfl trivial) fun hE => ?_
      refine uCons ?_
      refine st_push hE (hf_c (a := (9 : Int)) rfl trivial) fun hE => ?_
      refine uNil ?_
      refine st_callO (i := 0) ((4 : Int), (9 : Int)) rfl h0_8 hE rfl rfl h (fun e x I' H' cls d hm z => x _ H' cls d hm z.clear.nip.nip) fun t10 I H v hE h => ?_
      refine uNil ?_
      refine st_callO (i := 0) ((4 : Int), kinds, t10.1) rfl h0_7 hE rfl rfl h (fun e x I' H' cls d hm z => x _ H' cls d hm z.clear) fun t11 I H v hE h => ?_
      exact h _ _ _ hE.only0
    ·
      refine uNext (uSeq ?_)
      refine st_if hE (ht_tt (hf_pp hr_eqI (hf_var rfl) (hf_c (a := (2 : Int)) rfl trivial))) h (fun h => ?_) (fun h => ?_)
      ·
        refine uRet ?_
        refine st_push hE (hf_c (a := ([] : Tx)) (by decide +kernel) (by decide : (0 : Nat) ≤ line)) fun hE => ?_
        exact h _ _ _ hE.only0
      ·
        refine uNext (uRet ?_)
        refine st_push hE (hf_var rfl) fun hE => ?_
        exact h _ _ _ hE.only0

theorem ok_law_list (T : Txt Pg w K mg) : FnOk Pg w K mg base (L2N.CX Pg w) 3 T.a_law_list T.d_law_list ["pool", "kinds", "base"] (SpO K mg 2 (fun (a : Tx × Tx) => [.im a.1, .im a.2]) (fun s a => m_law_list s a.1 a.2) (fun b => .im b)) := by
  refine okN T.F_law_list sc_law_list (fun vs H Q E h => h.1) fun cdv A outer s H vs Q E hr h => ?_
  obtain ⟨hl, pool, ⟨kinds, base_⟩, I, ρ, Θ, hE, h⟩ := h
  obtain ⟨v0, vs, rfl⟩ : ∃ v0 vs1, vs = v0 :: vs1 := by cases vs with | nil => simp at hl | cons v0 vs => exact ⟨v0, vs, rfl⟩
  have hE : Env K I H (start N_law_list (v0 :: vs)) [.own (pool : (List Int)) (some v0), .im (kinds : Tx), .im (base_ : Tx), .any, .any, .any, .any, .any] ρ Θ := st_start hE (by rw [hl]; first | rfl | done)
  refine ⟨_, (pss_cons (ps_set (i := 3) sc_law_list.nd rfl (.inl rfl) (pe_callS (ok_law_draw (base := base) T) (hr.mono (by decide)) (by rfl) T.g_law_draw T.F_law_draw.kp T.b_law_draw (fun σ => L2N.passAt (L2N.takes_of rfl rfl rfl rfl) σ) (pa_cons (pv 0) (pa_cons pe_int (pa_cons pe_int pa_nil)))))
      (pss_cons (ps_if (pt_cmpR op_eq (pe_callS (ok_law_draw (base := base) T) (hr.mono (by decide)) (by rfl) T.g_law_draw T.F_law_draw.kp T.b_law_draw (fun σ => L2N.passAt (L2N.takes_of rfl rfl rfl rfl) σ) (pa_cons (pv 0) (pa_cons pe_int (pa_cons pe_int pa_nil)))) pe_int (nomark _)) (pss_one (ps_set (i := 3) sc_law_list.nd rfl (.inl rfl) pe_int)) pss_nil)
      (pss_cons (ps_set (i := 4) sc_law_list.nd rfl (.inr rfl) (pe_callB (call_min2 rfl) (by rfl) T.z_min (by decide +kernel) (pa_cons pe_int (pa_cons (pe_op op_add pe_int (pe_op op_fdivW pe_int (pe_callB (call_max2 rfl) (by rfl) T.z_max (by decide +kernel) (pa_cons pe_int (pa_cons (pe_callB call_len_str (by rfl) T.z_len PySem.boot_len (pa_cons (pv 2) pa_nil)) pa_nil))))) pa_nil))))
      (pss_cons (ps_setLc (i := 5) (own := [("k", 7)]) (g := gName 7) (by rfl) sc_law_list.nd rfl rfl (sw_true rfl rfl rfl (by decide +kernel)) (pi_range1 (by rfl) T.z_range (pa_cons (pv 3) pa_nil)) (blkOk_by (N := N_law_list) (sc := defScope s_law_list) (by decide +kernel)) (fun _ _ _ _ _ => pg_name (i := 7) sc_law_list.nd rfl (.inl rfl)) (fun _ _ _ _ _ => pts_nil) (fun _ _ _ _ _ => (pe_op op_rep_str (pv 2) (pe_callS (ok_law_draw (base := base) T) (hr.mono (by decide)) (by rfl) T.g_law_draw T.F_law_draw.kp T.b_law_draw (fun σ => L2N.passAt takesN0 σ) (pa_cons (pv 0) (pa_cons pe_int (pa_cons (pv 4) pa_nil)))))))
      (pss_cons (ps_if (PW.pt (pw_and (pt_cmpR op_gt (pv 3) pe_int (nomark _)) (pw_and1 (pt_cmpR op_eq (pe_callS (ok_law_draw (base := base) T) (hr.mono (by decide)) (by rfl) T.g_law_draw T.F_law_draw.kp T.b_law_draw (fun σ => L2N.passAt (L2N.takes_of rfl rfl rfl rfl) σ) (pa_cons (pv 0) (pa_cons pe_int (pa_cons pe_int pa_nil)))) pe_int (nomark _))))) (pss_cons (ps_set (i := 6) sc_law_list.nd rfl (.inl rfl) (pe_callS (ok_law_draw (base := base) T) (hr.mono (by decide)) (by rfl) T.g_law_draw T.F_law_draw.kp T.b_law_draw (fun σ => L2N.passAt (L2N.takes_of rfl rfl rfl rfl) σ) (pa_cons (pv 0) (pa_cons pe_int (pa_cons (pv 3) pa_nil)))))
      (pss_one (ps_asg (pe_callS (ok_law_word (base := base) T) (hr.mono (by decide)) (by rfl) T.g_law_word T.F_law_word.kp T.b_law_word (fun σ => L2N.passAt (L2N.takes_of rfl rfl rfl rfl) σ) (pa_cons (pv 0) (pa_cons pe_int (pa_cons (pv 1) (pa_cons (pe_callS (ok_law_draw (base := base) T) (hr.mono (by decide)) (by rfl) T.g_law_draw T.F_law_draw.kp T.b_law_draw (fun σ => L2N.passAt (L2N.takes_of rfl rfl rfl rfl) σ) (pa_cons (pv 0) (pa_cons pe_int (pa_cons pe_int pa_nil)))) pa_nil))))) (pg_sub (pv 5) (pv 6) set_list)))) pss_nil)
      (pss_one (ps_ret (pv 5)))))))), ?_⟩
  generalize start N_law_list (v0 :: vs) = σ at hE ⊢
  change wp (m_law_list pool kinds base_) _ _ at h
  unfold m_law_list at h
  refine uSeq (uAsg (uCallS (uCons ?_)))
  refine st_varO (i := 0) hE rfl fun va h0_0 => ?_
  refine uCons ?_
  refine st_push hE (hf_c (a := (5 : Int)) rfl trivial) fun hE => ?_
  refine uCons ?_
  refine st_push hE (hf_c (a := (7 : Int)) rfl trivial) fun hE => ?_
  refine uNil ?_
  refine st_callO (i := 0) ((5 : Int), (7 : Int)) rfl h0_0 hE rfl rfl h (fun e x I' H' cls d hm z => x _ H' cls d hm z.clear) fun t2 I H v hE h => ?_
  refine st_store (Γ' := [.own (t2.2 : (List Int)) (some v0), .im (kinds : Tx), .im (base_ : Tx), .im (t2.1 : Int), .any, .any, .any, .any]) hE rfl (by decide : (3 : Nat) < 8) fun σ hE => ?_
  refine uSeq (uIf (uTest (uOp (uCallS (uCons ?_)))))
  refine st_varO (i := 0) hE rfl fun va h0_2 => ?_
  refine uCons ?_
  refine st_push hE (hf_c (a := (5 : Int)) rfl trivial) fun hE => ?_
  refine uCons ?_
  refine st_push hE (hf_c (a := (8 : Int)) rfl trivial) fun hE => ?_
  refine uNil ?_
  refine st_callO (i := 0) ((5 : Int), (8 : Int)) rfl h0_2 hE rfl rfl h (fun e x I' H' cls d hm z => x _ H' cls d hm z.clear) fun t4 I H v hE h => ?_
  refine st_push hE (hf_c (a := (1 : Int)) rfl trivial) fun hE => ?_
  refine st_op2p hE hr_eqI fun v hE => ?_
  refine st_vb hE fun hE => ?_
  refine st_itej hE (fun (count : Int) => [.own (t4.2 : (List Int)) (some v0), .im (kinds : Tx), .im (base_ : Tx), .im (count : Int), .any, .any, .any, .any]) h (fun h => ?_) (fun h => ?_) (fun s I H σ hE h => ?_)
  ·
    refine st_setm (Γ' := fun (count : Int) => [.own (t4.2 : (List Int)) (some v0), .im (kinds : Tx), .im (base_ : Tx), .im (count : Int), .any, .any, .any, .any]) hE (hf_c (a := (20 : Int)) rfl trivial) h (fun _ => rfl) (by decide : (3 : Nat) < 8) fun count σ hE h => ?_
    exact h _ _ _ (hE.weak (Γ' := [.own (t4.2 : (List Int)) (some v0), .im (kinds : Tx), .im (base_ : Tx), .im (count : Int), .any, .any, .any, .any]) ⟨.inr rfl, .inr rfl, .inr rfl, .inr rfl, .inl rfl, .inl rfl, .inl rfl, .inl rfl, trivial⟩)
  ·
    refine uNext ?_
    exact h _ _ _ (hE.weak (Γ' := [.own (t4.2 : (List Int)) (some v0), .im (kinds : Tx), .im (base_ : Tx), .im (t2.1 : Int), .any, .any, .any, .any]) ⟨.inr rfl, .inr rfl, .inr rfl, .inr rfl, .inl rfl, .inl rfl, .inl rfl, .inl rfl, trivial⟩)
  revert hE h; revert s; intro count hE h
  refine uSeq ?_
  refine st_setm (Γ' := fun (many : Int) => [.own (t4.2 : (List Int)) (some v0), .im (kinds : Tx), .im (base_ : Tx), .im (count : Int), .im (many : Int), .any, .any, .any]) hE (hf_c2m (fun _ _ => hc_min) (hf_c (a := (4 : Int)) rfl trivial) (hf_pm (fun _ => hr_add) (hf_c (a := (1 : Int)) rfl trivial) (hf_pp hr_div (hf_c (a := (60 : Int)) rfl trivial) (hf_c2p hc_max (hf_c (a := (1 : Int)) rfl trivial) (hf_c1p hc_lenT (hf_var rfl)))))) h (fun _ => rfl) (by decide : (4 : Nat) < 8) fun many σ hE h => ?_
  refine uSeq (uAsg (uLc ?_))
  refine it_rng1 hE (hf_var rfl) h fun xs8 h J hJ => ?_
  refine st_lcs (α := Int) (β := Tx) (S := (List Int)) (i := 7) (fun (z : (List Int)) => [.own (z : (List Int)) (some v0), .im (kinds : Tx), .im (base_ : Tx), .im (count : Int), .im (many : Int), .any, .any, .any]) hJ hE (fun _ => rfl) h (fun ysl ysr I H v hE h => ?_) (fun k_ s9 I H σ ρ' Θ' Qe hE h => ?_)
  rotate_left 1
  ·
    replace hE : Env K _ _ _ [.own (s9 : (List Int)) (some v0), .im (kinds : Tx), .im (base_ : Tx), .im (count : Int), .im (many : Int), .any, .any, .im (k_ : Int)] _ _ := hE
    refine uOp ?_
    refine st_push hE (hf_var rfl) fun hE => ?_
    refine uCallS (uCons ?_)
    refine st_varO (i := 0) hE rfl fun va h0_9 => ?_
    refine uCons ?_
    refine st_push hE (hf_c (a := (6 : Int)) rfl trivial) fun hE => ?_
    refine uCons ?_
    refine st_push hE (hf_var rfl) fun hE => ?_
    refine uNil ?_
    refine st_callOX (i := 0) ((6 : Int), many) rfl h0_9 hE rfl rfl h  fun t11 I H v hE h => ?_
    refine st_op2 hE hr_repT h fun t12 v hE h => ?_
    exact h _ _ _ hE
  obtain ⟨ys13, eys13⟩ : ∃ y : List Tx × (List Int), y = (ysl, ysr) := ⟨_, rfl⟩
  rw [← eys13] at h
  have elys13 : ysl = ys13.1 := by rw [eys13]
  have erys13 : ysr = ys13.2 := by rw [eys13]
  subst elys13 erys13
  replace hE : Env K _ _ _ [.own (ys13.2 : (List Int)) (some v0), .im (kinds : Tx), .im (base_ : Tx), .im (count : Int), .im (many : Int), .any, .any, .any] _ _ := hE
  refine st_store (Γ' := [.own (ys13.2 : (List Int)) (some v0), .im (kinds : Tx), .im (base_ : Tx), .im (count : Int), .im (many : Int), .own (ys13.1 : (List Tx)), .any, .any]) hE rfl (by decide : (5 : Nat) < 8) fun σ hE => ?_
  refine uSeq (uIf ?_)
  refine st_tj hE (fun (s : (List Int)) => match s with | pool_ => [.own (pool_ : (List Int)) (some v0), .im (kinds : Tx), .im (base_ : Tx), .im (count : Int), .im (many : Int), .own (ys13.1 : (List Tx)), .any, .any]) h (fun h => ?_) (fun b16 s I H hE h => ?_)
  ·
    refine uAnd ?_
    refine st_htp hE (ht_tt (hf_pp hr_gt (hf_var rfl) (hf_c (a := (0 : Int)) rfl trivial))) ?_
    refine st_ite h (fun h => ?_) (fun h => ?_)
    ·
      refine uTest (uOp (uCallS (uCons ?_)))
      refine st_varO (i := 0) hE rfl fun va h0_13 => ?_
      refine uCons ?_
      refine st_push hE (hf_c (a := (5 : Int)) rfl trivial) fun hE => ?_
      refine uCons ?_
      refine st_push hE (hf_c (a := (2 : Int)) rfl trivial) fun hE => ?_
      refine uNil ?_
      refine st_callO (i := 0) ((5 : Int), (2 : Int)) rfl h0_13 hE rfl rfl h (fun e x I' H' cls d hm z => x _ H' cls d hm z.clear) fun t15 I H v hE h => ?_
      refine st_push hE (hf_c (a := (1 : Int)) rfl trivial) fun hE => ?_
      refine st_op2p hE hr_eqI fun v hE => ?_
      refine st_vb hE fun hE => ?_
      exact h _ _ hE
    ·
      exact h _ _ hE
  revert hE h; revert s; intro pool_ hE h
  refine st_itej hE (fun (s : (List Int) × (List Tx)) => match s with | (pool, words) => [.own (pool : (List Int)) (some v0), .im (kinds : Tx), .im (base_ : Tx), .im (count : Int), .im (many : Int), .own (words : (List Tx)), .any, .any]) h (fun h => ?_) (fun h => ?_) (fun s I H σ hE h => ?_)
  ·
    refine uSeq (uAsg (uCallS (uCons ?_)))
    refine st_varO (i := 0) hE rfl fun va h0_16 => ?_
    refine uCons ?_
    refine st_push hE (hf_c (a := (5 : Int)) rfl trivial) fun hE => ?_
    refine uCons ?_
    refine st_push hE (hf_var rfl) fun hE => ?_
    refine uNil ?_
    refine st_callO (i := 0) ((5 : Int), count) rfl h0_16 hE rfl rfl h (fun e x I' H' cls d hm z => x _ H' cls d hm z.clear) fun t18 I H v hE h => ?_
    refine st_store (Γ' := [.own (t18.2 : (List Int)) (some v0), .im (kinds : Tx), .im (base_ : Tx), .im (count : Int), .im (many : Int), .own (ys13.1 : (List Tx)), .im (t18.1 : Int), .any]) hE rfl (by decide : (6 : Nat) < 8) fun σ hE => ?_
    refine uAsg (uCallS (uCons ?_))
    refine st_varO (i := 0) hE rfl fun va h0_18 => ?_
    refine uCons ?_
    refine st_push hE (hf_c (a := (7 : Int)) rfl trivial) fun hE => ?_
    refine uCons ?_
    refine st_push hE (hf_var rfl) fun hE => ?_
    refine uCons (uCallS (uCons ?_))
    refine st_varO (i := 0) hE rfl fun va h0_19 => ?_
    refine uCons ?_
    refine st_push hE (hf_c (a := (5 : Int)) rfl trivial) fun hE => ?_
    refine uCons ?_
    refine st_push hE (hf_c (a := (7 : Int)) rfl trivial) fun hE => ?_
    refine uNil ?_
    refine st_callO (i := 0) ((5 : Int), (7 : Int)) rfl h0_19 hE rfl rfl h (fun e x I' H' cls d hm z => x _ H' cls d hm z.clear.nip.nip) fun t21 I H v hE h => ?_
    refine uNil ?_
    refine st_callO (i := 0) ((7 : Int), kinds, t21.1) rfl h0_18 hE rfl rfl h (fun e x I' H' cls d hm z => x _ H' cls d hm z.clear) fun t22 I H v hE h => ?_
    refine st_setLp (i := 5) (Γ' := fun (words : (List Tx)) => [.own (t22.2 : (List Int)) (some v0), .im (kinds : Tx), .im (base_ : Tx), .im (count : Int), .im (many : Int), .own (words : (List Tx)), .im (t18.1 : Int), .any]) hE rfl (hf_var rfl) h (fun _ => rfl) fun words H hE h => ?_
    exact h _ _ _ (hE.weak (Γ' := [.own (t22.2 : (List Int)) (some v0), .im (kinds : Tx), .im (base_ : Tx), .im (count : Int), .im (many : Int), .own (words : (List Tx)), .any, .any]) ⟨.inr rfl, .inr rfl, .inr rfl, .inr rfl, .inr rfl, .inr rfl, .inl rfl, .inl rfl, trivial⟩)
  ·
    refine uNext ?_
    exact h _ _ _ (hE.weak (Γ' := [.own (pool_ : (List Int)) (some v0), .im (kinds : Tx), .im (base_ : Tx), .im (count : Int), .im (many : Int), .own (ys13.1 : (List Tx)), .any, .any]) ⟨.inr rfl, .inr rfl, .inr rfl, .inr rfl, .inr rfl, .inr rfl, .inl rfl, .inl rfl, trivial⟩)
  obtain ⟨pool, words⟩ := s
  refine uRet ?_
  refine st_freeze (i := 5) (Γ' := [.own (pool : (List Int)) (some v0), .im (kinds : Tx), .im (base_ : Tx), .im (count : Int), .im (many : Int), .im (words : (List Tx)), .any, .any]) hE rfl rfl fun I hE => ?_
  refine st_var hE (i := 5) rfl fun v hE => ?_
  exact h _ _ _ hE.only0

theorem ok_law_odd (T : Txt Pg w K mg) : FnOk Pg w K mg base (L2N.CX Pg w) 2 T.a_law_odd T.d_law_odd ["pool", "word"] (SpO K mg 1 (fun (a : Tx) => [.im a]) (fun s a => m_law_odd s a) (fun b => .im b)) := by
  refine okN T.F_law_odd sc_law_odd (fun vs H Q E h => h.1) fun cdv A outer s H vs Q E hr h => ?_
  obtain ⟨hl, pool, word, I, ρ, Θ, hE, h⟩ := h
  obtain ⟨v0, vs, rfl⟩ : ∃ v0 vs1, vs = v0 :: vs1 := by cases vs with | nil => simp at hl | cons v0 vs => exact ⟨v0, vs, rfl⟩
  have hE : Env K I H (start N_law_odd (v0 :: vs)) [.own (pool : (List Int)) (some v0), .im (word : Tx), .any, .any, .any] ρ Θ := st_start hE (by rw [hl]; first | rfl | done)
  refine ⟨_, (pss_cons (ps_set (i := 2) sc_law_odd.nd rfl (.inl rfl) pe_str)
      (pss_cons (ps_set (i := 3) sc_law_odd.nd rfl (.inl rfl) (pe_callS (ok_law_draw (base := base) T) (hr.mono (by decide)) (by rfl) T.g_law_draw T.F_law_draw.kp T.b_law_draw (fun σ => L2N.passAt (L2N.takes_of rfl rfl rfl rfl) σ) (pa_cons (pv 0) (pa_cons pe_int (pa_cons (pe_op op_add (pe_callB call_len_str (by rfl) T.z_len PySem.boot_len (pa_cons (pv 1) pa_nil)) pe_int) pa_nil)))))
      (pss_cons (ps_set (i := 4) sc_law_odd.nd rfl (.inl rfl) (pe_ix ix_str (pv 2) (pe_callS (ok_law_draw (base := base) T) (hr.mono (by decide)) (by rfl) T.g_law_draw T.F_law_draw.kp T.b_law_draw (fun σ => L2N.passAt (L2N.takes_of rfl rfl rfl rfl) σ) (pa_cons (pv 0) (pa_cons pe_int (pa_cons (pe_callB call_len_str (by rfl) T.z_len PySem.boot_len (pa_cons (pv 2) pa_nil)) pa_nil)))) (fun _ _ => rfl)))
      (pss_one (ps_ret (pe_op op_add_str (pe_op op_add_str (pe_slice sl_str (pv 1) po_none (po_some (pv 3))) (pv 4)) (pe_slice sl_str (pv 1) (po_some (pv 3)) po_none))))))), ?_⟩
  generalize start N_law_odd (v0 :: vs) = σ at hE ⊢
  change wp (m_law_odd pool word) _ _ at h
  unfold m_law_odd at h
  refine uSeq ?_
  refine st_setm (Γ' := fun (signs : Tx) => [.own (pool : (List Int)) (some v0), .im (word : Tx), .im (signs : Tx), .any, .any]) hE (hf_c (a := ([32, 33, 34, 35, 36, 38, 39, 40, 41, 42, 43, 44, 45, 46, 47, 48, 49, 50, 51, 52, 53, 54, 55, 56, 57, 58, 59, 60, 61, 62, 63, 64, 65, 66, 67, 68, 69, 70, 71, 72, 73, 74, 75, 76, 77, 78, 79, 80, 81, 82, 83, 84, 85, 86, 87, 88, 89, 90, 91, 92, 93, 94, 95, 96, 123, 124, 125, 126, 10] : Tx)) (by decide +kernel) (by decide : (69 : Nat) ≤ line)) h (fun _ => rfl) (by decide : (2 : Nat) < 5) fun signs σ hE h => ?_
  refine uSeq (uAsg (uCallS (uCons ?_)))
  refine st_varO (i := 0) hE rfl fun va h0_0 => ?_
  refine uCons ?_
  refine st_push hE (hf_c (a := (8 : Int)) rfl trivial) fun hE => ?_
  refine uCons ?_
  refine st_push hE (hf_pp hr_add (hf_c1p hc_lenT (hf_var rfl)) (hf_c (a := (1 : Int)) rfl trivial)) fun hE => ?_
  refine uNil ?_
  refine st_callO (i := 0) ((8 : Int), (((word.length : Nat) : Int) + (1 : Int))) rfl h0_0 hE rfl rfl h (fun e x I' H' cls d hm z => x _ H' cls d hm z.clear) fun t2 I H v hE h => ?_
  refine st_store (Γ' := [.own (t2.2 : (List Int)) (some v0), .im (word : Tx), .im (signs : Tx), .im (t2.1 : Int), .any]) hE rfl (by decide : (3 : Nat) < 5) fun σ hE => ?_
  refine uSeq (uAsg (uOp ?_))
  refine st_push hE (hf_var rfl) fun hE => ?_
  refine uCallS (uCons ?_)
  refine st_varO (i := 0) hE rfl fun va h0_2 => ?_
  refine uCons ?_
  refine st_push hE (hf_c (a := (8 : Int)) rfl trivial) fun hE => ?_
  refine uCons ?_
  refine st_push hE (hf_c1p hc_lenT (hf_var rfl)) fun hE => ?_
  refine uNil ?_
  refine st_callO (i := 0) ((8 : Int), ((signs.length : Nat) : Int)) rfl h0_2 hE rfl rfl h (fun e x I' H' cls d hm z => x _ H' cls d hm z.clear.nip) fun t4 I H v hE h => ?_
  refine st_op2 hE hr_getT h fun t5 v hE h => ?_
  refine st_store (Γ' := [.own (t4.2 : (List Int)) (some v0), .im (word : Tx), .im (signs : Tx), .im (t2.1 : Int), .im (t5 : Tx)]) hE rfl (by decide : (4 : Nat) < 5) fun σ hE => ?_
  refine uRet ?_
  refine st_pushm hE (hf_mp (fun _ => hr_catT) (hf_pp hr_catT (hf_cut_p (hf_var rfl) ho_none (ho_p (hf_var rfl))) (hf_var rfl)) (hf_cut_p (hf_var rfl) (ho_p (hf_var rfl)) ho_none)) h fun t7 hE h => ?_
  exact h _ _ _ hE.only0

theorem ok_is_letters (T : Txt Pg w K mg) : FnOk Pg w K mg base (L2N.CX Pg w) 1 T.a_is_letters T.d_is_letters ["text", "most"] (SpM K mg 2 (fun (a : Tx × Int) => [.im a.1, .im a.2]) (fun a => m_is_letters a.1 a.2) (fun b => .im b)) := by
  refine okN T.F_is_letters sc_is_letters (fun vs H Q E h => h.1) fun cdv A outer s H vs Q E hr h => ?_
  obtain ⟨hl, ⟨text, most⟩, I, ρ, Θ, hE, h⟩ := h
  have hE : Env K I H (start N_is_letters vs) [.im (text : Tx), .im (most : Int), .any] ρ Θ := st_start hE (by rw [hl]; first | rfl | done)
  refine ⟨_, (pss_cons (ps_if (pt_cmpR op_gt (pe_callB call_len_str (by rfl) T.z_len PySem.boot_len (pa_cons (pv 0) pa_nil)) (pv 1) (nomark _)) (pss_one (ps_ret pe_bl)) pss_nil)
      (pss_cons (ps_for (passes_of rfl) rfl (pi_str (pv 0)) (pg_name (i := 2) sc_is_letters.nd rfl (.inl rfl)) (pss_one (ps_if (PW.pt (pw_or (pt_cmpR op_lt_str (pv 2) pe_str (nomark _)) (pw_or1 (pt_cmpR op_gt_str (pv 2) pe_str (nomark _))))) (pss_one (ps_ret pe_bl)) pss_nil)))
      (pss_one (ps_ret pe_bl)))), ?_⟩
  generalize start N_is_letters vs = σ at hE ⊢
  change wp (m_is_letters text most) _ _ at h
  unfold m_is_letters at h
  refine uSeq ?_
  refine st_if hE (ht_tt (hf_pp hr_gt (hf_c1p hc_lenT (hf_var rfl)) (hf_var rfl))) h (fun h => ?_) (fun h => ?_)
  ·
    exact st_ret hE (hf_c (a := false) rfl trivial) h
  ·
    refine uNext (uSeq (uFor ?_))
    refine it_str hE (hf_var rfl) fun J hJ => ?_
    refine st_for (α := Tx) hJ (RetP K ρ Θ (fun b => .im b) Q) (fun (_ : Unit) => [.im (text : Tx), .im (most : Int), .any]) hE ⟨.inr rfl, .inr rfl, .inl rfl, trivial⟩ h (fun r h => h) (fun letter s I H σ v N B hE h => ?_) (fun s I H σ hE h => ?_)
    ·
      refine st_store (Γ' := [.im (text : Tx), .im (most : Int), .im (letter : Tx)]) hE rfl (by decide : (2 : Nat) < 3) fun σ hE => ?_
      refine st_if hE (ht_or_pp (ht_tt (hf_pp hr_ltT (hf_var rfl) (hf_c (a := ([97] : Tx)) (by decide +kernel) (by decide : (1 : Nat) ≤ line)))) (ht_tt (hf_pp hr_gtT (hf_var rfl) (hf_c (a := ([122] : Tx)) (by decide +kernel) (by decide : (1 : Nat) ≤ line))))) h (fun h => ?_) (fun h => ?_)
      ·
        exact st_ret hE (hf_c (a := false) rfl trivial) h
      ·
        refine uNext ?_
        exact h _ _ _ (hE.weak (Γ' := [.im (text : Tx), .im (most : Int), .any]) ⟨.inr rfl, .inr rfl, .inl rfl, trivial⟩)
    exact st_ret hE (hf_c (a := true) rfl trivial) h

theorem ok_is_word (T : Txt Pg w K mg) : FnOk Pg w K mg base (L2N.CX Pg w) 2 T.a_is_word T.d_is_word ["text"] (SpM K mg 1 (fun (a : Tx) => [.im a]) (fun a => m_is_word a) (fun b => .im b)) := by
  refine okN T.F_is_word sc_is_word (fun vs H Q E h => h.1) fun cdv A outer s H vs Q E hr h => ?_
  obtain ⟨hl, text, I, ρ, Θ, hE, h⟩ := h
  have hE : Env K I H (start N_is_word vs) [.im (text : Tx)] ρ Θ := st_start hE (by rw [hl]; first | rfl | done)
  refine ⟨_, (pss_one (ps_ret (pe_callS (ok_is_letters (base := base) T) (hr.mono (by decide)) (by rfl) T.g_is_letters T.F_is_letters.kp T.b_is_letters (fun σ => L2N.passAt (L2N.takes_of rfl rfl rfl rfl) σ) (pa_cons (pv 0) (pa_cons pe_int pa_nil))))), ?_⟩
  generalize start N_is_word vs = σ at hE ⊢
  change wp (m_is_word text) _ _ at h
  unfold m_is_word at h
  refine uRet (uCallS (uCons ?_))
  refine st_push hE (hf_var rfl) fun hE => ?_
  refine uCons ?_
  refine st_push hE (hf_c (a := (60 : Int)) rfl trivial) fun hE => ?_
  refine uNil ?_
  refine st_call (text, (60 : Int)) hE rfl rfl h (fun e x I' H' cls d hm z => x _ H' cls d hm z.clear) fun t1 I H v hE h => ?_
  exact h _ _ _ hE.clear

theorem ok_check_word (T : Txt Pg w K mg) : FnOk Pg w K mg base (L2N.CX Pg w) 3 T.a_check_word T.d_check_word ["word"] (SpM K mg 1 (fun (a : Tx) => [.im a]) (fun a => m_check_word a) (fun b => .im b)) := by
  refine okN T.F_check_word sc_check_word (fun vs H Q E h => h.1) fun cdv A outer s H vs Q E hr h => ?_
  obtain ⟨hl, word, I, ρ, Θ, hE, h⟩ := h
  have hE : Env K I H (start N_check_word vs) [.im (word : Tx)] ρ Θ := st_start hE (by rw [hl]; first | rfl | done)
  refine ⟨_, (pss_one (ps_if (pt_not (pt_val (pe_callS (ok_is_word (base := base) T) (hr.mono (by decide)) (by rfl) T.g_is_word T.F_is_word.kp T.b_is_word (fun σ => L2N.passAt (L2N.takes_of rfl rfl rfl rfl) σ) (pa_cons (pv 0) pa_nil)))) (pss_one (L2N.ps_raise rfl (L2N.takes_of rfl rfl rfl rfl) (pmk_oexN (x := "BadWord") (T.x_BadWord (base := base)).T (T.x_BadWord (base := base)).iC (T.x_BadWord (base := base)).tI (T.x_BadWord (base := base)).ini (hr.mono (by decide)) (T.x_BadWord (base := base)).bI passN (by rfl) (T.x_BadWord (base := base)).gC (pa_cons (pv 0) pa_nil)))) pss_nil)), ?_⟩
  generalize start N_check_word vs = σ at hE ⊢
  change wp (m_check_word word) _ _ at h
  unfold m_check_word at h
  refine uIf (uNot (uB (uCallS (uCons ?_))))
  refine st_push hE (hf_var rfl) fun hE => ?_
  refine uNil ?_
  refine st_call word hE rfl rfl h (fun e x I' H' cls d hm z => x _ H' cls d hm z.clear) fun t1 I H v hE h => ?_
  refine st_vb hE fun hE => ?_
  refine st_ite h (fun h => ?_) (fun h => ?_)
  ·
    exact st_raise (W := fun cls d _ H' => E cls d H') hE (hf_var rfl) (T.x_BadWord (base := base)).gC (fun I' H' cls d hm z => h I' H' cls d hm z.clear)
  ·
    refine uNext ?_
    exact st_retN hE h

theorem ok_check_many (T : Txt Pg w K mg) : FnOk Pg w K mg base (L2N.CX Pg w) 3 T.a_check_many T.d_check_many ["things", "most"] (SpM K mg 2 (fun (a : (SeqL Tx) × Int) => [.im a.1, .im a.2]) (fun a => m_check_many a.1 a.2) (fun b => .im b)) := by
  refine okN T.F_check_many sc_check_many (fun vs H Q E h => h.1) fun cdv A outer s H vs Q E hr h => ?_
  obtain ⟨hl, ⟨things, most⟩, I, ρ, Θ, hE, h⟩ := h
  have hE : Env K I H (start N_check_many vs) [.im (things : (SeqL Tx)), .im (most : Int)] ρ Θ := st_start hE (by rw [hl]; first | rfl | done)
  refine ⟨_, (pss_one (ps_if (pt_cmpR op_gt (pe_callB call_len_seq (by rfl) T.z_len PySem.boot_len (pa_cons (pv 0) pa_nil)) (pv 1) (nomark _)) (pss_one (L2N.ps_raise rfl (L2N.takes_of rfl rfl rfl rfl) (pmk_oexN (x := "TooMany") (T.x_TooMany (base := base)).T (T.x_TooMany (base := base)).iC (T.x_TooMany (base := base)).tI (T.x_TooMany (base := base)).ini (hr.mono (by decide)) (T.x_TooMany (base := base)).bI passN (by rfl) (T.x_TooMany (base := base)).gC (pa_cons (pv 1) pa_nil)))) pss_nil)), ?_⟩
  generalize start N_check_many vs = σ at hE ⊢
  change wp (m_check_many things most) _ _ at h
  unfold m_check_many at h
  refine st_if hE (ht_tt (hf_pp hr_gt (hf_lenS (hΓ := rfl)) (hf_var rfl))) h (fun h => ?_) (fun h => ?_)
  ·
    exact st_raise (W := fun cls d _ H' => E cls d H') hE (hf_var rfl) (T.x_TooMany (base := base)).gC (fun I' H' cls d hm z => h I' H' cls d hm z.clear)
  ·
    refine uNext ?_
    exact st_retN hE h

theorem ok_root (T : Txt Pg w K mg) : FnOk Pg w K mg base (L2N.CX Pg w) 4 T.a_root T.d_root ["word"] (SpM K mg 1 (fun (a : Tx) => [.im a]) (fun a => m_root a) (fun b => .im b)) := by
  refine okN T.F_root sc_root (fun vs H Q E h => h.1) fun cdv A outer s H vs Q E hr h => ?_
  obtain ⟨hl, word, I, ρ, Θ, hE, h⟩ := h
  have hE : Env K I H (start N_root vs) [.im (word : Tx), .any, .any] ρ Θ := st_start hE (by rw [hl]; first | rfl | done)
  refine ⟨_, (pss_cons (ps_expr (pe_callS (ok_check_word (base := base) T) (hr.mono (by decide)) (by rfl) T.g_check_word T.F_check_word.kp T.b_check_word (fun σ => L2N.passAt (L2N.takes_of rfl rfl rfl rfl) σ) (pa_cons (pv 0) pa_nil)))
      (pss_cons (ps_set (i := 1) sc_root.nd rfl (.inl rfl) (pe_callB call_len_str (by rfl) T.z_len PySem.boot_len (pa_cons (pv 0) pa_nil)))
      (pss_cons (ps_for (passes_of rfl) rfl (pi_range2 (by rfl) T.z_range (pa_cons pe_int (pa_cons (pe_op op_add (pv 1) pe_int) pa_nil))) (pg_name (i := 2) sc_root.nd rfl (.inl rfl)) (pss_one (ps_if (PW.pt (pw_and (pt_cmpR op_eq (pe_op op_mod (pv 1) (pv 2)) pe_int (nomark _)) (pw_and1 (pt_cmpR op_eq (pe_op op_rep_str (pe_slice sl_str (pv 0) po_none (po_some (pv 2))) (pe_op op_fdivW (pv 1) (pv 2))) (pv 0) (nomark _))))) (pss_one (ps_ret (pe_slice sl_str (pv 0) po_none (po_some (pv 2))))) pss_nil)))
      (pss_one (ps_ret pe_str))))), ?_⟩
  generalize start N_root vs = σ at hE ⊢
  change wp (m_root word) _ _ at h
  unfold m_root at h
  refine uSeq (uDrop (uCallS (uCons ?_)))
  refine st_push hE (hf_var rfl) fun hE => ?_
  refine uNil ?_
  refine st_call word hE rfl rfl h (fun e x I' H' cls d hm z => x _ H' cls d hm z.clear) fun t1 I H v hE h => ?_
  have hE := hE.pop
  refine uSeq ?_
  refine st_setm (Γ' := fun (size : Int) => [.im (word : Tx), .im (size : Int), .any]) hE (hf_c1p hc_lenT (hf_var rfl)) h (fun _ => rfl) (by decide : (1 : Nat) < 3) fun size σ hE h => ?_
  refine uSeq (uFor ?_)
  refine it_rng2 hE (hf_c (a := (1 : Int)) rfl trivial) (hf_pp hr_add (hf_var rfl) (hf_c (a := (1 : Int)) rfl trivial)) h fun xs2 h J hJ => ?_
  refine st_for (α := Int) hJ (RetP K ρ Θ (fun b => .im b) Q) (fun (_ : Unit) => [.im (word : Tx), .im (size : Int), .any]) hE ⟨.inr rfl, .inr rfl, .inl rfl, trivial⟩ h (fun r h => h) (fun count s I H σ v N B hE h => ?_) (fun s I H σ hE h => ?_)
  ·
    refine st_store (Γ' := [.im (word : Tx), .im (size : Int), .im (count : Int)]) hE rfl (by decide : (2 : Nat) < 3) fun σ hE => ?_
    refine st_ifm hE (ht_and_m (ht_tt (hf_mp (fun _ => hr_eqI) (hf_pp hr_mod (hf_var rfl) (hf_var rfl)) (hf_c (a := (0 : Int)) rfl trivial))) (ht_tt (hf_mp (fun _ => hr_eqT) (hf_pm (fun _ => hr_repT) (hf_cut_p (hf_var rfl) ho_none (ho_p (hf_var rfl))) (hf_pp hr_div (hf_var rfl) (hf_var rfl))) (hf_var rfl)))) h (fun h => ?_) (fun h => ?_)
    ·
      exact st_ret hE (hf_cut_p (hf_var rfl) ho_none (ho_p (hf_var rfl))) h
    ·
      refine uNext ?_
      exact h _ _ _ (hE.weak (Γ' := [.im (word : Tx), .im (size : Int), .any]) ⟨.inr rfl, .inr rfl, .inl rfl, trivial⟩)
  exact st_ret hE (hf_c (a := ([] : Tx)) (by decide +kernel) (by decide : (0 : Nat) ≤ line)) h

theorem ok_exponent (T : Txt Pg w K mg) : FnOk Pg w K mg base (L2N.CX Pg w) 5 T.a_exponent T.d_exponent ["word"] (SpM K mg 1 (fun (a : Tx) => [.im a]) (fun a => m_exponent a) (fun b => .im b)) := by
  refine okN T.F_exponent sc_exponent (fun vs H Q E h => h.1) fun cdv A outer s H vs Q E hr h => ?_
  obtain ⟨hl, word, I, ρ, Θ, hE, h⟩ := h
  have hE : Env K I H (start N_exponent vs) [.im (word : Tx), .any] ρ Θ := st_start hE (by rw [hl]; first | rfl | done)
  refine ⟨_, (pss_cons (ps_set (i := 1) sc_exponent.nd rfl (.inl rfl) (pe_callS (ok_root (base := base) T) (hr.mono (by decide)) (by rfl) T.g_root T.F_root.kp T.b_root (fun σ => L2N.passAt (L2N.takes_of rfl rfl rfl rfl) σ) (pa_cons (pv 0) pa_nil)))
      (pss_cons (ps_if (pt_not (pt_truth (pv 1) (by intro _; rfl))) (pss_one (ps_ret pe_int)) pss_nil)
      (pss_one (ps_ret (pe_op op_fdivW (pe_callB call_len_str (by rfl) T.z_len PySem.boot_len (pa_cons (pv 0) pa_nil)) (pe_callB call_len_str (by rfl) T.z_len PySem.boot_len (pa_cons (pv 1) pa_nil))))))), ?_⟩
  generalize start N_exponent vs = σ at hE ⊢
  change wp (m_exponent word) _ _ at h
  unfold m_exponent at h
  refine uSeq (uAsg (uCallS (uCons ?_)))
  refine st_push hE (hf_var rfl) fun hE => ?_
  refine uNil ?_
  refine st_call word hE rfl rfl h (fun e x I' H' cls d hm z => x _ H' cls d hm z.clear) fun t1 I H v hE h => ?_
  refine st_store (Γ' := [.im (word : Tx), .im (t1 : Tx)]) hE rfl (by decide : (1 : Nat) < 2) fun σ hE => ?_
  refine uSeq ?_
  refine st_if hE (ht_not_p (ht_truT_p (hf_var rfl))) h (fun h => ?_) (fun h => ?_)
  ·
    exact st_ret hE (hf_c (a := (0 : Int)) rfl trivial) h
  ·
    refine uNext ?_
    exact st_retm hE (hf_pp hr_div (hf_c1p hc_lenT (hf_var rfl)) (hf_c1p hc_lenT (hf_var rfl))) h fun t2 h => h

theorem ok_is_primitive (T : Txt Pg w K mg) : FnOk Pg w K mg base (L2N.CX Pg w) 6 T.a_is_primitive T.d_is_primitive ["word"] (SpM K mg 1 (fun (a : Tx) => [.im a]) (fun a => m_is_primitive a) (fun b => .im b)) := by
  refine okN T.F_is_primitive sc_is_primitive (fun vs H Q E h => h.1) fun cdv A outer s H vs Q E hr h => ?_
  obtain ⟨hl, word, I, ρ, Θ, hE, h⟩ := h
  have hE : Env K I H (start N_is_primitive vs) [.im (word : Tx)] ρ Θ := st_start hE (by rw [hl]; first | rfl | done)
  refine ⟨_, (pss_one (ps_ret (pe_cmpR op_eq (pe_callS (ok_exponent (base := base) T) (hr.mono (by decide)) (by rfl) T.g_exponent T.F_exponent.kp T.b_exponent (fun σ => L2N.passAt (L2N.takes_of rfl rfl rfl rfl) σ) (pa_cons (pv 0) pa_nil)) pe_int (nomark _)))), ?_⟩
  generalize start N_is_primitive vs = σ at hE ⊢
  change wp (m_is_primitive word) _ _ at h
  unfold m_is_primitive at h
  refine uRet (uOp (uCallS (uCons ?_)))
  refine st_push hE (hf_var rfl) fun hE => ?_
  refine uNil ?_
  refine st_call word hE rfl rfl h (fun e x I' H' cls d hm z => x _ H' cls d hm z.clear) fun t1 I H v hE h => ?_
  refine st_push hE (hf_c (a := (1 : Int)) rfl trivial) fun hE => ?_
  refine st_op2p hE hr_eqI fun v hE => ?_
  exact h _ _ _ hE.clear

theorem ok_commute (T : Txt Pg w K mg) : FnOk Pg w K mg base (L2N.CX Pg w) 4 T.a_commute T.d_commute ["first", "second"] (SpM K mg 2 (fun (a : Tx × Tx) => [.im a.1, .im a.2]) (fun a => m_commute a.1 a.2) (fun b => .im b)) := by
  refine okN T.F_commute sc_commute (fun vs H Q E h => h.1) fun cdv A outer s H vs Q E hr h => ?_
  obtain ⟨hl, ⟨first, second⟩, I, ρ, Θ, hE, h⟩ := h
  have hE : Env K I H (start N_commute vs) [.im (first : Tx), .im (second : Tx)] ρ Θ := st_start hE (by rw [hl]; first | rfl | done)
  refine ⟨_, (pss_cons (ps_expr (pe_callS (ok_check_word (base := base) T) (hr.mono (by decide)) (by rfl) T.g_check_word T.F_check_word.kp T.b_check_word (fun σ => L2N.passAt (L2N.takes_of rfl rfl rfl rfl) σ) (pa_cons (pv 0) pa_nil)))
      (pss_cons (ps_expr (pe_callS (ok_check_word (base := base) T) (hr.mono (by decide)) (by rfl) T.g_check_word T.F_check_word.kp T.b_check_word (fun σ => L2N.passAt (L2N.takes_of rfl rfl rfl rfl) σ) (pa_cons (pv 1) pa_nil)))
      (pss_one (ps_ret (pe_cmpR op_eq (pe_op op_add_str (pv 0) (pv 1)) (pe_op op_add_str (pv 1) (pv 0)) (nomark _)))))), ?_⟩
  generalize start N_commute vs = σ at hE ⊢
  change wp (m_commute first second) _ _ at h
  unfold m_commute at h
  refine uSeq (uDrop (uCallS (uCons ?_)))
  refine st_push hE (hf_var rfl) fun hE => ?_
  refine uNil ?_
  refine st_call first hE rfl rfl h (fun e x I' H' cls d hm z => x _ H' cls d hm z.clear) fun t1 I H v hE h => ?_
  have hE := hE.pop
  refine uSeq (uDrop (uCallS (uCons ?_)))
  refine st_push hE (hf_var rfl) fun hE => ?_
  refine uNil ?_
  refine st_call second hE rfl rfl h (fun e x I' H' cls d hm z => x _ H' cls d hm z.clear) fun t2 I H v hE h => ?_
  have hE := hE.pop
  exact st_retm hE (hf_mm (fun _ _ => hr_eqT) (hf_pp hr_catT (hf_var rfl) (hf_var rfl)) (hf_pp hr_catT (hf_var rfl) (hf_var rfl))) h fun t5 h => h

theorem ok_common_root (T : Txt Pg w K mg) : FnOk Pg w K mg base (L2N.CX Pg w) 5 T.a_common_root T.d_common_root ["words"] (SpM K mg 1 (fun (a : (SeqL Tx)) => [.im a]) (fun a => m_common_root a) (fun b => .im b)) := by
  refine okN T.F_common_root sc_common_root (fun vs H Q E h => h.1) fun cdv A outer s H vs Q E hr h => ?_
  obtain ⟨hl, words, I, ρ, Θ, hE, h⟩ := h
  have hE : Env K I H (start N_common_root vs) [.im (words : (SeqL Tx)), .any, .any] ρ Θ := st_start hE (by rw [hl]; first | rfl | done)
  refine ⟨_, (pss_cons (ps_expr (pe_callS (ok_check_many (base := base) T) (hr.mono (by decide)) (by rfl) T.g_check_many T.F_check_many.kp T.b_check_many (fun σ => L2N.passAt (L2N.takes_of rfl rfl rfl rfl) σ) (pa_cons (pv 0) (pa_cons pe_int pa_nil))))
      (pss_cons (ps_for (passes_of rfl) rfl (pi_seq (pv 0)) (pg_name (i := 1) sc_common_root.nd rfl (.inl rfl)) (pss_one (ps_expr (pe_callS (ok_check_word (base := base) T) (hr.mono (by decide)) (by rfl) T.g_check_word T.F_check_word.kp T.b_check_word (fun σ => L2N.passAt (L2N.takes_of rfl rfl rfl rfl) σ) (pa_cons (pv 1) pa_nil)))))
      (pss_cons (ps_set (i := 2) sc_common_root.nd rfl (.inl rfl) pe_str)
      (pss_cons (ps_for (passes_of rfl) rfl (pi_seq (pv 0)) (pg_name (i := 1) sc_common_root.nd rfl (.inl rfl)) (pss_one (ps_if (PW.pt (pw_and (pt_truth (pv 1) (by intro _; rfl)) (pw_and1 (pt_not (pt_truth (pv 2) (by intro _; rfl)))))) (pss_one (ps_set (i := 2) sc_common_root.nd rfl (.inl rfl) (pe_callS (ok_root (base := base) T) (hr.mono (by decide)) (by rfl) T.g_root T.F_root.kp T.b_root (fun σ => L2N.passAt (L2N.takes_of rfl rfl rfl rfl) σ) (pa_cons (pv 1) pa_nil)))) (pss_one (ps_if (PW.pt (pw_and (pt_truth (pv 1) (by intro _; rfl)) (pw_and1 (pt_cmpR op_ne (pe_callS (ok_root (base := base) T) (hr.mono (by decide)) (by rfl) T.g_root T.F_root.kp T.b_root (fun σ => L2N.passAt (L2N.takes_of rfl rfl rfl rfl) σ) (pa_cons (pv 1) pa_nil)) (pv 2) (nomark _))))) (pss_one (ps_ret pe_non)) pss_nil)))))
      (pss_one (ps_ret (pv 2))))))), ?_⟩
  generalize start N_common_root vs = σ at hE ⊢
  change wp (m_common_root words) _ _ at h
  unfold m_common_root at h
  refine uSeq (uDrop (uCallS (uCons ?_)))
  refine st_var hE (i := 0) rfl fun v hE => ?_
  refine uCons ?_
  refine st_push hE (hf_c (a := (20 : Int)) rfl trivial) fun hE => ?_
  refine uNil ?_
  refine st_call (words, (20 : Int)) hE rfl rfl h (fun e x I' H' cls d hm z => x _ H' cls d hm z.clear) fun t1 I H v hE h => ?_
  have hE := hE.pop
  refine uSeq (uFor (uSqI ?_))
  refine st_var hE (i := 0) rfl fun v hE => ?_
  refine it_seq hE fun J cq1 hE hJ => ?_
  refine st_forS (α := Tx) hJ (fun (_ : Unit) => [.im (words : (SeqL Tx)), .any, .any]) hE ⟨.inr rfl, .inl rfl, .inl rfl, trivial⟩ h (fun word s I H σ v N B hE h => ?_) (fun s I H σ hE h => ?_)
  ·
    refine st_store (Γ' := [.im (words : (SeqL Tx)), .im (word : Tx), .any]) hE rfl (by decide : (1 : Nat) < 3) fun σ hE => ?_
    refine uDrop (uCallS (uCons ?_))
    refine st_push hE (hf_var rfl) fun hE => ?_
    refine uNil ?_
    refine st_call word hE rfl rfl h (fun e x I' H' cls d hm z => x _ H' cls d hm z.clear.nip) fun t3 I H v hE h => ?_
    have hE := hE.pop
    exact h _ _ _ (hE.weak (Γ' := [.im (words : (SeqL Tx)), .any, .any]) ⟨.inr rfl, .inl rfl, .inl rfl, trivial⟩)
  refine uSeq ?_
  refine st_setm (Γ' := fun (shared : Tx) => [.im (words : (SeqL Tx)), .any, .im (shared : Tx)]) hE (hf_c (a := ([] : Tx)) (by decide +kernel) (by decide : (0 : Nat) ≤ line)) h (fun _ => rfl) (by decide : (2 : Nat) < 3) fun shared σ hE h => ?_
  refine uSeq (uFor (uSqI ?_))
  refine st_var hE (i := 0) rfl fun v hE => ?_
  refine it_seq hE fun J cq4 hE hJ => ?_
  refine st_for (α := Tx) hJ (RetP K ρ Θ (fun b => .im b) Q) (fun (shared : Tx) => [.im (words : (SeqL Tx)), .any, .im (shared : Tx)]) hE ⟨.inr rfl, .inl rfl, .inr rfl, trivial⟩ h (fun r h => h) (fun word s I H σ v N B hE h => ?_) (fun s I H σ hE h => ?_)
  ·
    revert hE h; revert s; intro shared hE h
    refine st_store (Γ' := [.im (words : (SeqL Tx)), .im (word : Tx), .im (shared : Tx)]) hE rfl (by decide : (1 : Nat) < 3) fun σ hE => ?_
    refine st_if hE (ht_and_pp (ht_truT_p (hf_var rfl)) (ht_not_p (ht_truT_p (hf_var rfl)))) h (fun h => ?_) (fun h => ?_)
    ·
      refine uAsg (uCallS (uCons ?_))
      refine st_push hE (hf_var rfl) fun hE => ?_
      refine uNil ?_
      refine st_call word hE rfl rfl h (fun e x I' H' cls d hm z => x _ H' cls d hm z.clear.nip) fun t6 I H v hE h => ?_
      refine st_store (Γ' := [.im (words : (SeqL Tx)), .im (word : Tx), .im (t6 : Tx)]) hE rfl (by decide : (2 : Nat) < 3) fun σ hE => ?_
      exact h _ _ _ (hE.weak (Γ' := [.im (words : (SeqL Tx)), .any, .im (t6 : Tx)]) ⟨.inr rfl, .inl rfl, .inr rfl, trivial⟩)
    ·
      refine uIf ?_
      refine st_tj hE (fun (s : Unit) => [.im (words : (SeqL Tx)), .im (word : Tx), .im (shared : Tx)]) h (fun h => ?_) (fun b8 s I H hE h => ?_)
      ·
        refine uAnd ?_
        refine st_htp hE (ht_truT_p (hf_var rfl)) ?_
        refine st_ite h (fun h => ?_) (fun h => ?_)
        ·
          refine uTest (uOp (uCallS (uCons ?_)))
          refine st_push hE (hf_var rfl) fun hE => ?_
          refine uNil ?_
          refine st_call word hE rfl rfl h (fun e x I' H' cls d hm z => x _ H' cls d hm z.clear.nip) fun t7 I H v hE h => ?_
          refine st_push hE (hf_var rfl) fun hE => ?_
          refine st_op2p hE hr_neT fun v hE => ?_
          refine st_vb hE fun hE => ?_
          exact h _ _ hE
        ·
          exact h _ _ hE
      refine st_ite h (fun h => ?_) (fun h => ?_)
      ·
        refine uRet ?_
        refine st_push hE (hf_c (a := ()) rfl trivial) fun hE => ?_
        replace hE := hE.unitDt
        exact h _ _ _ hE.clear.nip
      ·
        refine uNext ?_
        exact h _ _ _ (hE.weak (Γ' := [.im (words : (SeqL Tx)), .any, .im (shared : Tx)]) ⟨.inr rfl, .inl rfl, .inr rfl, trivial⟩)
  revert hE h; revert s; intro shared hE h
  refine uRet ?_
  refine st_push hE (hf_var rfl) fun hE => ?_
  replace hE := hE.toDt
  exact h _ _ _ hE.clear

theorem ok_law_written (T : Txt Pg w K mg) : FnOk Pg w K mg base (L2N.CX Pg w) 1 T.a_law_written T.d_law_written ["word", "count"] (SpM K mg 2 (fun (a : Tx × Int) => [.im a.1, .im a.2]) (fun a => m_law_written a.1 a.2) (fun b => .im b)) := by
  refine okN T.F_law_written sc_law_written (fun vs H Q E h => h.1) fun cdv A outer s H vs Q E hr h => ?_
  obtain ⟨hl, ⟨word, count⟩, I, ρ, Θ, hE, h⟩ := h
  have hE : Env K I H (start N_law_written vs) [.im (word : Tx), .im (count : Int), .any] ρ Θ := st_start hE (by rw [hl]; first | rfl | done)
  refine ⟨_, (pss_cons (ps_for (passes_of rfl) rfl (pi_range1 (by rfl) T.z_range (pa_cons (pe_callB call_len_str (by rfl) T.z_len PySem.boot_len (pa_cons (pv 0) pa_nil)) pa_nil)) (pg_name (i := 2) sc_law_written.nd rfl (.inl rfl)) (pss_one (ps_if (pt_cmpR op_ne (pe_ix ix_str (pv 0) (pv 2) (fun _ _ => rfl)) (pe_ix ix_str (pv 0) (pe_op op_mod (pe_callTy call_int1 (by rfl) T.z_int (by decide +kernel) (pa_cons (pv 2) pa_nil)) (pv 1)) (fun _ _ => rfl)) (nomark _)) (pss_one (ps_ret pe_bl)) pss_nil)))
      (pss_one (ps_ret pe_bl))), ?_⟩
  generalize start N_law_written vs = σ at hE ⊢
  change wp (m_law_written word count) _ _ at h
  unfold m_law_written at h
  refine uSeq (uFor ?_)
  refine it_rng1 hE (hf_c1p hc_lenT (hf_var rfl)) h fun xs1 h J hJ => ?_
  refine st_for (α := Int) hJ (RetP K ρ Θ (fun b => .im b) Q) (fun (_ : Unit) => [.im (word : Tx), .im (count : Int), .any]) hE ⟨.inr rfl, .inr rfl, .inl rfl, trivial⟩ h (fun r h => h) (fun place s I H σ v N B hE h => ?_) (fun s I H σ hE h => ?_)
  ·
    refine st_store (Γ' := [.im (word : Tx), .im (count : Int), .im (place : Int)]) hE rfl (by decide : (2 : Nat) < 3) fun σ hE => ?_
    refine st_ifm hE (ht_tt (hf_mm (fun _ _ => hr_neT) (hf_pp hr_getT (hf_var rfl) (hf_var rfl)) (hf_pm (fun _ => hr_getT) (hf_var rfl) (hf_pp hr_mod (hf_c1p hc_int (hf_var rfl)) (hf_var rfl))))) h (fun h => ?_) (fun h => ?_)
    ·
      exact st_ret hE (hf_c (a := false) rfl trivial) h
    ·
      refine uNext ?_
      exact h _ _ _ (hE.weak (Γ' := [.im (word : Tx), .im (count : Int), .any]) ⟨.inr rfl, .inr rfl, .inl rfl, trivial⟩)
  exact st_ret hE (hf_c (a := true) rfl trivial) h

theorem ok_law_root (T : Txt Pg w K mg) : FnOk Pg w K mg base (L2N.CX Pg w) 2 T.a_law_root T.d_law_root ["word"] (SpM K mg 1 (fun (a : Tx) => [.im a]) (fun a => m_law_root a) (fun b => .im b)) := by
  refine okN T.F_law_root sc_law_root (fun vs H Q E h => h.1) fun cdv A outer s H vs Q E hr h => ?_
  obtain ⟨hl, word, I, ρ, Θ, hE, h⟩ := h
  have hE : Env K I H (start N_law_root vs) [.im (word : Tx), .any] ρ Θ := st_start hE (by rw [hl]; first | rfl | done)
  refine ⟨_, (pss_cons (ps_for (passes_of rfl) rfl (pi_range2 (by rfl) T.z_range (pa_cons pe_int (pa_cons (pe_op op_add (pe_callB call_len_str (by rfl) T.z_len PySem.boot_len (pa_cons (pv 0) pa_nil)) pe_int) pa_nil))) (pg_name (i := 1) sc_law_root.nd rfl (.inl rfl)) (pss_one (ps_if (PW.pt (pw_and (pt_cmpR op_eq (pe_op op_mod (pe_callB call_len_str (by rfl) T.z_len PySem.boot_len (pa_cons (pv 0) pa_nil)) (pv 1)) pe_int (nomark _)) (pw_and1 (pt_val (pe_callS (ok_law_written (base := base) T) (hr.mono (by decide)) (by rfl) T.g_law_written T.F_law_written.kp T.b_law_written (fun σ => L2N.passAt (L2N.takes_of rfl rfl rfl rfl) σ) (pa_cons (pv 0) (pa_cons (pv 1) pa_nil))))))) (pss_one (ps_ret (pe_slice sl_str (pv 0) po_none (po_some (pv 1))))) pss_nil)))
      (pss_one (ps_ret pe_str))), ?_⟩
  generalize start N_law_root vs = σ at hE ⊢
  change wp (m_law_root word) _ _ at h
  unfold m_law_root at h
  refine uSeq (uFor ?_)
  refine it_rng2 hE (hf_c (a := (1 : Int)) rfl trivial) (hf_pp hr_add (hf_c1p hc_lenT (hf_var rfl)) (hf_c (a := (1 : Int)) rfl trivial)) h fun xs1 h J hJ => ?_
  refine st_for (α := Int) hJ (RetP K ρ Θ (fun b => .im b) Q) (fun (_ : Unit) => [.im (word : Tx), .any]) hE ⟨.inr rfl, .inl rfl, trivial⟩ h (fun r h => h) (fun count s I H σ v N B hE h => ?_) (fun s I H σ hE h => ?_)
  ·
    refine st_store (Γ' := [.im (word : Tx), .im (count : Int)]) hE rfl (by decide : (1 : Nat) < 2) fun σ hE => ?_
    refine uIf ?_
    refine st_tj hE (fun (s : Unit) => [.im (word : Tx), .im (count : Int)]) h (fun h => ?_) (fun b5 s I H hE h => ?_)
    ·
      refine uAnd ?_
      refine st_htm hE (ht_tt (hf_mp (fun _ => hr_eqI) (hf_pp hr_mod (hf_c1p hc_lenT (hf_var rfl)) (hf_var rfl)) (hf_c (a := (0 : Int)) rfl trivial))) h fun b3 h => ?_
      refine st_ite h (fun h => ?_) (fun h => ?_)
      ·
        refine uB (uCallS (uCons ?_))
        refine st_push hE (hf_var rfl) fun hE => ?_
        refine uCons ?_
        refine st_push hE (hf_var rfl) fun hE => ?_
        refine uNil ?_
        refine st_call (word, count) hE rfl rfl h (fun e x I' H' cls d hm z => x _ H' cls d hm z.clear) fun t4 I H v hE h => ?_
        refine st_vb hE fun hE => ?_
        exact h _ _ hE
      ·
        exact h _ _ hE
    refine st_ite h (fun h => ?_) (fun h => ?_)
    ·
      exact st_ret hE (hf_cut_p (hf_var rfl) ho_none (ho_p (hf_var rfl))) h
    ·
      refine uNext ?_
      exact h _ _ _ (hE.weak (Γ' := [.im (word : Tx), .any]) ⟨.inr rfl, .inl rfl, trivial⟩)
  exact st_ret hE (hf_c (a := ([] : Tx)) (by decide +kernel) (by decide : (0 : Nat) ≤ line)) h

theorem ok_law_shared (T : Txt Pg w K mg) : FnOk Pg w K mg base (L2N.CX Pg w) 3 T.a_law_shared T.d_law_shared ["words"] (SpM K mg 1 (fun (a : (List Tx)) => [.im a]) (fun a => m_law_shared a) (fun b => .im b)) := by
  refine okN T.F_law_shared sc_law_shared (fun vs H Q E h => h.1) fun cdv A outer s H vs Q E hr h => ?_
  obtain ⟨hl, words, I, ρ, Θ, hE, h⟩ := h
  have hE : Env K I H (start N_law_shared vs) [.im (words : (List Tx)), .any, .any, .any] ρ Θ := st_start hE (by rw [hl]; first | rfl | done)
  refine ⟨_, (pss_cons (ps_set (i := 1) sc_law_shared.nd rfl (.inr rfl) (pe_lc (own := [("word", 2)]) (g := gName 2) (by rfl) sc_law_shared.nd (pi_list (pv 0)) (blkOk_by (N := N_law_shared) (sc := defScope s_law_shared) (by decide +kernel)) (fun _ _ _ _ _ => pg_name (i := 2) sc_law_shared.nd rfl (.inl rfl)) (fun _ _ _ _ _ => pts_one (pt_cmpR op_ne (pv 2) pe_str (nomark _))) (fun _ _ _ _ _ => (pe_callS (ok_law_root (base := base) T) (hr.mono (by decide)) (by rfl) T.g_law_root T.F_law_root.kp T.b_law_root (fun σ => L2N.passAt takesN0 σ) (pa_cons (pv 2) pa_nil)))))
      (pss_cons (ps_if (pt_cmpR (op_eqD hr.units) (pv 1) (pe_lst pa_nil) (nomark _)) (pss_one (ps_ret pe_str)) pss_nil)
      (pss_cons (ps_if (pt_cmpR (op_neD hr.units) (pe_lc (own := [("own", 3)]) (g := gName 3) (by rfl) sc_law_shared.nd (pi_list (pv 1)) (blkOk_by (N := N_law_shared) (sc := defScope s_law_shared) (by decide +kernel)) (fun _ _ _ _ _ => pg_name (i := 3) sc_law_shared.nd rfl (.inl rfl)) (fun _ _ _ _ _ => pts_one (pt_cmpR op_ne (pv 3) (pe_ix (r := rIxL K) ix_list (pv 1) pe_int (fun _ _ => rfl)) (nomark _))) (fun _ _ _ _ _ => (pv 3))) (pe_lst pa_nil) (nomark _)) (pss_one (ps_ret pe_non)) pss_nil)
      (pss_one (ps_ret (pe_ix ix_list (pv 1) pe_int (fun _ _ => rfl))))))), ?_⟩
  generalize start N_law_shared vs = σ at hE ⊢
  change wp (m_law_shared words) _ _ at h
  unfold m_law_shared at h
  refine uSeq (uAsg (uLc (uList ?_)))
  refine st_var hE (i := 0) rfl fun v hE => ?_
  refine it_list hE fun ja hJ => ?_
  refine st_lcf (α := Tx) (β := Tx) (i := 2) hJ hE rfl h (fun ys2 I H v hE h => ?_) (fun word I H σ ρ' Θ' Qt hE h => ?_) (fun word I H σ ρ' Θ' Qe hE h => ?_)
  rotate_left 1
  ·
    refine st_htp hE (ht_tt (hf_pp hr_neT (hf_var rfl) (hf_c (a := ([] : Tx)) (by decide +kernel) (by decide : (0 : Nat) ≤ line)))) ?_
    exact h _ _ hE
  ·
    refine uCallS (uCons ?_)
    refine st_push hE (hf_var rfl) fun hE => ?_
    refine uNil ?_
    refine st_callX word hE rfl rfl h  fun t1 I H v hE h => ?_
    exact h _ _ _ hE
  refine st_freezeT hE fun I hE => ?_
  refine st_store (Γ' := [.im (words : (List Tx)), .im (ys2 : (List Tx)), .any, .any]) hE rfl (by decide : (1 : Nat) < 4) fun σ hE => ?_
  refine uSeq (uIf (uTest (uOp ?_)))
  refine st_var hE (i := 1) rfl fun v hE => ?_
  refine uLst (uNil ?_)
  refine st_lstI (α := Tx) [] [] rfl (Nat.zero_le _) hE fun I H v hE => ?_
  refine st_eqD hE (by decide) h fun t3 v hE h => ?_
  refine st_vb hE fun hE => ?_
  refine st_ite h (fun h => ?_) (fun h => ?_)
  ·
    refine uRet ?_
    refine st_push hE (hf_c (a := ([] : Tx)) (by decide +kernel) (by decide : (0 : Nat) ≤ line)) fun hE => ?_
    replace hE := hE.toDt
    exact h _ _ _ hE.clear
  ·
    refine uNext (uSeq (uIf (uTest (uOp (uLc (uList ?_))))))
    refine st_var hE (i := 1) rfl fun v hE => ?_
    refine it_list hE fun ja hJ => ?_
    refine st_lcf (α := Tx) (β := Tx) (i := 3) hJ hE rfl h (fun ys6 I H v hE h => ?_) (fun own I H σ ρ' Θ' Qt hE h => ?_) (fun own I H σ ρ' Θ' Qe hE h => ?_)
    rotate_left 1
    ·
      refine st_htm hE (ht_tt (hf_pm (fun _ => hr_neT) (hf_var rfl) (hf_ixLp rfl (hf_c (a := (0 : Int)) rfl trivial)))) h fun b5 h => ?_
      exact h _ _ hE
    ·
      refine st_push hE (hf_var rfl) fun hE => ?_
      exact h _ _ _ hE
    refine st_freezeT hE fun I hE => ?_
    refine uLst (uNil ?_)
    refine st_lstI (α := Tx) [] [] rfl (Nat.zero_le _) hE fun I H v hE => ?_
    refine st_neD hE (by decide) h fun t7 v hE h => ?_
    refine st_vb hE fun hE => ?_
    refine st_ite h (fun h => ?_) (fun h => ?_)
    ·
      refine uRet ?_
      refine st_push hE (hf_c (a := ()) rfl trivial) fun hE => ?_
      replace hE := hE.unitDt
      exact h _ _ _ hE.clear
    ·
      refine uNext (uRet ?_)
      refine st_pushm hE (hf_ixLp rfl (hf_c (a := (0 : Int)) rfl trivial)) h fun t8 hE h => ?_
      replace hE := hE.toDt
      exact h _ _ _ hE.clear

theorem ok_law_word_right (T : Txt Pg w K mg) : FnOk Pg w K mg base (L2N.CX Pg w) 7 T.a_law_word_right T.d_law_word_right ["word"] (SpM K mg 1 (fun (a : Tx) => [.im a]) (fun a => m_law_word_right a) (fun b => .im b)) := by
  refine okN T.F_law_word_right sc_law_word_right (fun vs H Q E h => h.1) fun cdv A outer s H vs Q E hr h => ?_
  obtain ⟨hl, word, I, ρ, Θ, hE, h⟩ := h
  have hE : Env K I H (start N_law_word_right vs) [.im (word : Tx), .any, .any, .any] ρ Θ := st_start hE (by rw [hl]; first | rfl | done)
  refine ⟨_, (pss_cons (ps_set (i := 1) sc_law_word_right.nd rfl (.inl rfl) (pe_callS (ok_law_root (base := base) T) (hr.mono (by decide)) (by rfl) T.g_law_root T.F_law_root.kp T.b_law_root (fun σ => L2N.passAt (L2N.takes_of rfl rfl rfl rfl) σ) (pa_cons (pv 0) pa_nil)))
      (pss_cons (ps_set (i := 2) sc_law_word_right.nd rfl (.inl rfl) pe_int)
      (pss_cons (ps_if (pt_cmpR op_ne (pv 1) pe_str (nomark _)) (pss_one (ps_set (i := 2) sc_law_word_right.nd rfl (.inl rfl) (pe_op op_fdivW (pe_callB call_len_str (by rfl) T.z_len PySem.boot_len (pa_cons (pv 0) pa_nil)) (pe_callB call_len_str (by rfl) T.z_len PySem.boot_len (pa_cons (pv 1) pa_nil))))) pss_nil)
      (pss_cons (ps_set (i := 3) sc_law_word_right.nd rfl (.inl rfl) (pe_callS (ok_root (base := base) T) (hr.mono (by decide)) (by rfl) T.g_root T.F_root.kp T.b_root (fun σ => L2N.passAt (L2N.takes_of rfl rfl rfl rfl) σ) (pa_cons (pv 0) pa_nil)))
      (pss_cons (ps_if (PW.pt (pw_or (pt_not (pt_val (pe_callB call_isi (by rfl) T.z_isinstance (by decide +kernel) (pa_cons (pv 3) (pa_cons (pe_bltn (v := .ty "str") (by rfl) T.z_str (by decide +kernel) rfl) pa_nil))))) (pw_or (pt_cmpR op_ne (pv 3) (pv 1) (nomark _)) (pw_or1 (pt_cmpR op_ne (pe_callKS0 (ok_root (base := base) T) (hr.mono (by decide)) (by rfl) T.g_root T.F_root.kp T.k_root_0 (fun σ => L2N.passAt (L2N.takes_of rfl rfl rfl rfl) σ) (pk_cons (pv 0) pk_nil)) (pv 1) (nomark _)))))) (pss_one (ps_ret pe_bl)) pss_nil)
      (pss_cons (ps_set (i := 3) sc_law_word_right.nd rfl (.inl rfl) (pe_callKS0 (ok_exponent (base := base) T) (hr.mono (by decide)) (by rfl) T.g_exponent T.F_exponent.kp T.k_exponent_1 (fun σ => L2N.passAt (L2N.takes_of rfl rfl rfl rfl) σ) (pk_cons (pv 0) pk_nil)))
      (pss_cons (ps_if (PW.pt (pw_or (pt_not (pt_val (pe_callB call_isi (by rfl) T.z_isinstance (by decide +kernel) (pa_cons (pv 3) (pa_cons (pe_bltn (v := .ty "int") (by rfl) T.z_int (by decide +kernel) rfl) pa_nil))))) (pw_or (pt_val (pe_callB call_isi (by rfl) T.z_isinstance (by decide +kernel) (pa_cons (pv 3) (pa_cons (pe_bltn (v := .ty "bool") (by rfl) T.z_bool (by decide +kernel) rfl) pa_nil)))) (pw_or1 (pt_cmpR op_ne (pv 3) (pv 2) (nomark _)))))) (pss_one (ps_ret pe_bl)) pss_nil)
      (pss_cons (ps_set (i := 3) sc_law_word_right.nd rfl (.inl rfl) (pe_callKS0 (ok_is_primitive (base := base) T) (hr.mono (by decide)) (by rfl) T.g_is_primitive T.F_is_primitive.kp T.k_is_primitive_2 (fun σ => L2N.passAt (L2N.takes_of rfl rfl rfl rfl) σ) (pk_cons (pv 0) pk_nil)))
      (pss_one (ps_ret (pe_and (pe_callB call_isi (by rfl) T.z_isinstance (by decide +kernel) (pa_cons (pv 3) (pa_cons (pe_bltn (v := .ty "bool") (by rfl) T.z_bool (by decide +kernel) rfl) pa_nil))) (pe_one (pe_cmpR op_eq (pv 3) (pe_cmpR op_eq (pv 2) pe_int (nomark _)) (nomark _)))))))))))))), ?_⟩
  generalize start N_law_word_right vs = σ at hE ⊢
  change wp (m_law_word_right word) _ _ at h
  unfold m_law_word_right at h
  refine uSeq (uAsg (uCallS (uCons ?_)))
  refine st_push hE (hf_var rfl) fun hE => ?_
  refine uNil ?_
  refine st_call word hE rfl rfl h (fun e x I' H' cls d hm z => x _ H' cls d hm z.clear) fun t1 I H v hE h => ?_
  refine st_store (Γ' := [.im (word : Tx), .im (t1 : Tx), .any, .any]) hE rfl (by decide : (1 : Nat) < 4) fun σ hE => ?_
  refine uSeq ?_
  refine st_setm (Γ' := fun (times : Int) => [.im (word : Tx), .im (t1 : Tx), .im (times : Int), .any]) hE (hf_c (a := (0 : Int)) rfl trivial) h (fun _ => rfl) (by decide : (2 : Nat) < 4) fun times σ hE h => ?_
  refine uSeq ?_
  refine st_ifj (fun (times : Int) => [.im (word : Tx), .im (t1 : Tx), .im (times : Int), .any]) hE (ht_tt (hf_pp hr_neT (hf_var rfl) (hf_c (a := ([] : Tx)) (by decide +kernel) (by decide : (0 : Nat) ≤ line)))) h (fun h => ?_) (fun h => ?_) (fun s I H σ hE h => ?_)
  ·
    refine st_setm (Γ' := fun (times : Int) => [.im (word : Tx), .im (t1 : Tx), .im (times : Int), .any]) hE (hf_pp hr_div (hf_c1p hc_lenT (hf_var rfl)) (hf_c1p hc_lenT (hf_var rfl))) h (fun _ => rfl) (by decide : (2 : Nat) < 4) fun times σ hE h => ?_
    exact h _ _ _ (hE.weak (Γ' := [.im (word : Tx), .im (t1 : Tx), .im (times : Int), .any]) ⟨.inr rfl, .inr rfl, .inr rfl, .inl rfl, trivial⟩)
  ·
    refine uNext ?_
    exact h _ _ _ (hE.weak (Γ' := [.im (word : Tx), .im (t1 : Tx), .im (times : Int), .any]) ⟨.inr rfl, .inr rfl, .inr rfl, .inl rfl, trivial⟩)
  revert hE h; revert s; intro times hE h
  refine uSeq (uAsg (uCallS (uCons ?_)))
  refine st_push hE (hf_var rfl) fun hE => ?_
  refine uNil ?_
  refine st_call word hE rfl rfl h (fun e x I' H' cls d hm z => x _ H' cls d hm z.clear) fun t2 I H v hE h => ?_
  refine st_store (Γ' := [.im (word : Tx), .im (t1 : Tx), .im (times : Int), .im (t2 : Tx)]) hE rfl (by decide : (3 : Nat) < 4) fun σ hE => ?_
  refine uSeq (uIf ?_)
  refine st_tj hE (fun (s : Unit) => [.im (word : Tx), .im (t1 : Tx), .im (times : Int), .im (t2 : Tx)]) h (fun h => ?_) (fun b4 s I H hE h => ?_)
  ·
    refine uOr ?_
    refine st_htp hE (ht_not_p (ht_B (hf_isT rfl (fun _ => rfl)))) ?_
    refine st_ite h (fun h => ?_) (fun h => ?_)
    ·
      exact h _ _ hE
    ·
      refine uOr ?_
      refine st_htp hE (ht_tt (hf_pp hr_neT (hf_var rfl) (hf_var rfl))) ?_
      refine st_ite h (fun h => ?_) (fun h => ?_)
      ·
        exact h _ _ hE
      ·
        refine uTest (uOp (uCallKS (uNil (uCons ?_))))
        refine st_push hE (hf_var rfl) fun hE => ?_
        refine uNil ?_
        refine ⟨rfl, rfl, ?_⟩
        refine st_call word hE rfl rfl h (fun e x I' H' cls d hm z => x _ H' cls d hm z.clear) fun t3 I H v hE h => ?_
        refine st_push hE (hf_var rfl) fun hE => ?_
        refine st_op2p hE hr_neT fun v hE => ?_
        refine st_vb hE fun hE => ?_
        exact h _ _ hE
  refine st_ite h (fun h => ?_) (fun h => ?_)
  ·
    exact st_ret hE (hf_c (a := false) rfl trivial) h
  ·
    refine uNext (uSeq (uAsg (uCallKS (uNil (uCons ?_)))))
    refine st_push hE (hf_var rfl) fun hE => ?_
    refine uNil ?_
    refine ⟨rfl, rfl, ?_⟩
    refine st_call word hE rfl rfl h (fun e x I' H' cls d hm z => x _ H' cls d hm z.clear) fun t5 I H v hE h => ?_
    refine st_store (Γ' := [.im (word : Tx), .im (t1 : Tx), .im (times : Int), .im (t5 : Int)]) hE rfl (by decide : (3 : Nat) < 4) fun σ hE => ?_
    refine uSeq ?_
    refine st_if hE (ht_or_pp (ht_not_p (ht_B (hf_isI rfl (fun _ => rfl)))) (ht_or_pp (ht_B (hf_isI rfl (fun _ => rfl))) (ht_tt (hf_pp hr_neI (hf_var rfl) (hf_var rfl))))) h (fun h => ?_) (fun h => ?_)
    ·
      exact st_ret hE (hf_c (a := false) rfl trivial) h
    ·
      refine uNext (uSeq (uAsg (uCallKS (uNil (uCons ?_)))))
      refine st_push hE (hf_var rfl) fun hE => ?_
      refine uNil ?_
      refine ⟨rfl, rfl, ?_⟩
      refine st_call word hE rfl rfl h (fun e x I' H' cls d hm z => x _ H' cls d hm z.clear) fun t6 I H v hE h => ?_
      refine st_store (Γ' := [.im (word : Tx), .im (t1 : Tx), .im (times : Int), .im (t6 : Bool)]) hE rfl (by decide : (3 : Nat) < 4) fun σ hE => ?_
      exact st_ret hE (hf_and_pp (hf_isB rfl (fun _ => rfl)) (hf_pp hr_eqB (hf_var rfl) (hf_pp hr_eqI (hf_var rfl) (hf_c (a := (1 : Int)) rfl trivial)))) h

theorem ok_law_pair_right (T : Txt Pg w K mg) : FnOk Pg w K mg base (L2N.CX Pg w) 5 T.a_law_pair_right T.d_law_pair_right ["first", "second"] (SpM K mg 2 (fun (a : Tx × Tx) => [.im a.1, .im a.2]) (fun a => m_law_pair_right a.1 a.2) (fun b => .im b)) := by
  refine okN T.F_law_pair_right sc_law_pair_right (fun vs H Q E h => h.1) fun cdv A outer s H vs Q E hr h => ?_
  obtain ⟨hl, ⟨first, second⟩, I, ρ, Θ, hE, h⟩ := h
  have hE : Env K I H (start N_law_pair_right vs) [.im (first : Tx), .im (second : Tx), .any, .any] ρ Θ := st_start hE (by rw [hl]; first | rfl | done)
  refine ⟨_, (pss_cons (ps_set (i := 2) sc_law_pair_right.nd rfl (.inl rfl) (pe_callS (ok_commute (base := base) T) (hr.mono (by decide)) (by rfl) T.g_commute T.F_commute.kp T.b_commute (fun σ => L2N.passAt (L2N.takes_of rfl rfl rfl rfl) σ) (pa_cons (pv 0) (pa_cons (pv 1) pa_nil))))
      (pss_cons (ps_set (i := 3) sc_law_pair_right.nd rfl (.inl rfl) (pe_cmpR op_eq (pe_op op_add_str (pv 0) (pv 1)) (pe_op op_add_str (pv 1) (pv 0)) (nomark _)))
      (pss_cons (ps_if (PW.pt (pw_or (pt_not (pt_val (pe_callB call_isi (by rfl) T.z_isinstance (by decide +kernel) (pa_cons (pv 2) (pa_cons (pe_bltn (v := .ty "bool") (by rfl) T.z_bool (by decide +kernel) rfl) pa_nil))))) (pw_or1 (pt_cmpR op_ne (pv 2) (pv 3) (nomark _))))) (pss_one (ps_ret pe_bl)) pss_nil)
      (pss_cons (ps_if (pt_cmpR op_ne (pe_callKS0 (ok_commute (base := base) T) (hr.mono (by decide)) (by rfl) T.g_commute T.F_commute.kp T.k_commute_3 (fun σ => L2N.passAt (L2N.takes_of rfl rfl rfl rfl) σ) (pk_cons (pv 1) (pk_cons (pv 0) pk_nil))) (pv 3) (nomark _)) (pss_one (ps_ret pe_bl)) pss_nil)
      (pss_cons (ps_set (i := 3) sc_law_pair_right.nd rfl (.inl rfl) (pe_or (pe_cmpR op_eq (pv 0) pe_str (nomark _)) (pe_one (pe_cmpR op_eq (pv 1) pe_str (nomark _)))))
      (pss_one (ps_ret (pe_cmpR op_eq (pv 2) (pe_or (pv 3) (pe_one (pe_cmpR op_eq (pe_callS (ok_law_root (base := base) T) (hr.mono (by decide)) (by rfl) T.g_law_root T.F_law_root.kp T.b_law_root (fun σ => L2N.passAt (L2N.takes_of rfl rfl rfl rfl) σ) (pa_cons (pv 0) pa_nil)) (pe_callS (ok_law_root (base := base) T) (hr.mono (by decide)) (by rfl) T.g_law_root T.F_law_root.kp T.b_law_root (fun σ => L2N.passAt (L2N.takes_of rfl rfl rfl rfl) σ) (pa_cons (pv 1) pa_nil)) (nomark _)))) (nomark _))))))))), ?_⟩
  generalize start N_law_pair_right vs = σ at hE ⊢
  change wp (m_law_pair_right first second) _ _ at h
  unfold m_law_pair_right at h
  refine uSeq (uAsg (uCallS (uCons ?_)))
  refine st_push hE (hf_var rfl) fun hE => ?_
  refine uCons ?_
  refine st_push hE (hf_var rfl) fun hE => ?_
  refine uNil ?_
  refine st_call (first, second) hE rfl rfl h (fun e x I' H' cls d hm z => x _ H' cls d hm z.clear) fun t1 I H v hE h => ?_
  refine st_store (Γ' := [.im (first : Tx), .im (second : Tx), .im (t1 : Bool), .any]) hE rfl (by decide : (2 : Nat) < 4) fun σ hE => ?_
  refine uSeq ?_
  refine st_setm (Γ' := fun (due : Bool) => [.im (first : Tx), .im (second : Tx), .im (t1 : Bool), .im (due : Bool)]) hE (hf_mm (fun _ _ => hr_eqT) (hf_pp hr_catT (hf_var rfl) (hf_var rfl)) (hf_pp hr_catT (hf_var rfl) (hf_var rfl))) h (fun _ => rfl) (by decide : (3 : Nat) < 4) fun due σ hE h => ?_
  refine uSeq ?_
  refine st_if hE (ht_or_pp (ht_not_p (ht_B (hf_isB rfl (fun _ => rfl)))) (ht_tt (hf_pp hr_neB (hf_var rfl) (hf_var rfl)))) h (fun h => ?_) (fun h => ?_)
  ·
    exact st_ret hE (hf_c (a := false) rfl trivial) h
  ·
    refine uNext (uSeq (uIf (uTest (uOp (uCallKS (uNil (uCons ?_)))))))
    refine st_push hE (hf_var rfl) fun hE => ?_
    refine uCons ?_
    refine st_push hE (hf_var rfl) fun hE => ?_
    refine uNil ?_
    refine ⟨rfl, rfl, ?_⟩
    have hE := hE.sw0
    refine st_call (first, second) hE rfl rfl h (fun e x I' H' cls d hm z => x _ H' cls d hm z.clear) fun t4 I H v hE h => ?_
    refine st_push hE (hf_var rfl) fun hE => ?_
    refine st_op2p hE hr_neB fun v hE => ?_
    refine st_vb hE fun hE => ?_
    refine st_ite h (fun h => ?_) (fun h => ?_)
    ·
      exact st_ret hE (hf_c (a := false) rfl trivial) h
    ·
      refine uNext (uSeq ?_)
      refine st_setm (Γ' := fun (due : Bool) => [.im (first : Tx), .im (second : Tx), .im (t1 : Bool), .im (due : Bool)]) hE (hf_or_pp (hf_pp hr_eqT (hf_var rfl) (hf_c (a := ([] : Tx)) (by decide +kernel) (by decide : (0 : Nat) ≤ line))) (hf_pp hr_eqT (hf_var rfl) (hf_c (a := ([] : Tx)) (by decide +kernel) (by decide : (0 : Nat) ≤ line)))) h (fun _ => rfl) (by decide : (3 : Nat) < 4) fun due σ hE h => ?_
      refine uRet (uOp ?_)
      refine st_push hE (hf_var rfl) fun hE => ?_
      refine uOrV ?_
      refine st_push hE (hf_var rfl) fun hE => ?_
      refine st_vb hE fun hE => ?_
      refine st_orV hE h (fun h => ?_) (fun t7 I H v hE h => ?_)
      ·
        refine uOp (uCallS (uCons ?_))
        refine st_push hE (hf_var rfl) fun hE => ?_
        refine uNil ?_
        refine st_call first hE rfl rfl h (fun e x I' H' cls d hm z => x _ H' cls d hm z.clear.nip) fun t5 I H v hE h => ?_
        refine uCallS (uCons ?_)
        refine st_push hE (hf_var rfl) fun hE => ?_
        refine uNil ?_
        refine st_call second hE rfl rfl h (fun e x I' H' cls d hm z => x _ H' cls d hm z.clear.nip.nip) fun t6 I H v hE h => ?_
        refine st_op2p hE hr_eqT fun v hE => ?_
        exact h _ _ _ hE
      refine st_op2p hE hr_eqB fun v hE => ?_
      exact h _ _ _ hE.clear

theorem ok_law_list_right (T : Txt Pg w K mg) : FnOk Pg w K mg base (L2N.CX Pg w) 6 T.a_law_list_right T.d_law_list_right ["words"] (SpM K mg 1 (fun (a : (List Tx)) => [.im a]) (fun a => m_law_list_right a) (fun b => .im b)) := by
  refine okN T.F_law_list_right sc_law_list_right (fun vs H Q E h => h.1) fun cdv A outer s H vs Q E hr h => ?_
  obtain ⟨hl, words, I, ρ, Θ, hE, h⟩ := h
  have hE : Env K I H (start N_law_list_right vs) [.im (words : (List Tx)), .any, .any, .any] ρ Θ := st_start hE (by rw [hl]; first | rfl | done)
  refine ⟨_, (pss_cons (ps_set (i := 1) sc_law_list_right.nd rfl (.inl rfl) (pe_callS (ok_law_shared (base := base) T) (hr.mono (by decide)) (by rfl) T.g_law_shared T.F_law_shared.kp T.b_law_shared (fun σ => L2N.passAt (L2N.takes_of rfl rfl rfl rfl) σ) (pa_cons (pv 0) pa_nil)))
      (pss_cons (ps_for (passes_of rfl) rfl (pi_list (pe_lst (pa_cons (pe_lstOf (K := K) rfl (by rfl) T.z_list (by decide +kernel) (pa_cons (pv 0) pa_nil)) (pa_cons (pe_callTy call_tuple_of (by rfl) T.z_tuple (by decide +kernel) (pa_cons (pv 0) pa_nil)) (pa_cons (pe_lstOf (K := K) rfl (by rfl) T.z_list (by decide +kernel) (pa_cons (pv 0) pa_nil)) pa_nil))))) (pg_name (i := 2) sc_law_list_right.nd rfl (.inl rfl)) (pss_cons (ps_set (i := 3) sc_law_list_right.nd rfl (.inl rfl) (pe_callS (ok_common_root (base := base) T) (hr.mono (by decide)) (by rfl) T.g_common_root T.F_common_root.kp T.b_common_root (fun σ => L2N.passAt (L2N.takes_of rfl rfl rfl rfl) σ) (pa_cons (pv 2) pa_nil)))
      (pss_cons (ps_if (PW.pt (pw_or (pt_cmpR (op_neD hr.units) (pe_lstOf (K := K) rfl (by rfl) T.z_list (by decide +kernel) (pa_cons (pv 2) pa_nil)) (pv 0) (nomark _)) (pw_or1 (pt_cmpR (op_neD hr.units) (pe_callKS0 (ok_common_root (base := base) T) (hr.mono (by decide)) (by rfl) T.g_common_root T.F_common_root.kp T.k_common_root_4 (fun σ => L2N.passAt (L2N.takes_of rfl rfl rfl rfl) σ) (pk_cons (pv 2) pk_nil)) (pv 3) (nomark _))))) (pss_one (ps_ret pe_bl)) pss_nil)
      (pss_cons (ps_if (PW.pt (pw_and (pt_cmpR op_isN (pv 1) pe_non (nomark _)) (pw_and1 (pt_cmpR op_notN (pv 3) pe_non (nomark _))))) (pss_one (ps_ret pe_bl)) pss_nil)
      (pss_one (ps_if (PW.pt (pw_and (pt_cmpR op_notN (pv 1) pe_non (nomark _)) (pw_and1 (PW.pt (pw_or (pt_not (pt_val (pe_callB call_isi (by rfl) T.z_isinstance (by decide +kernel) (pa_cons (pv 3) (pa_cons (pe_bltn (v := .ty "str") (by rfl) T.z_str (by decide +kernel) rfl) pa_nil))))) (pw_or1 (pt_cmpR (op_neD hr.units) (pv 3) (pv 1) (nomark _)))))))) (pss_one (ps_ret pe_bl)) pss_nil))))))
      (pss_one (ps_ret pe_bl)))), ?_⟩
  generalize start N_law_list_right vs = σ at hE ⊢
  change wp (m_law_list_right words) _ _ at h
  unfold m_law_list_right at h
  refine uSeq (uAsg (uCallS (uCons ?_)))
  refine st_var hE (i := 0) rfl fun v hE => ?_
  refine uNil ?_
  refine st_call words hE rfl rfl h (fun e x I' H' cls d hm z => x _ H' cls d hm z.clear) fun t1 I H v hE h => ?_
  refine st_store (Γ' := [.im (words : (List Tx)), .im (t1 : PyData), .any, .any]) hE rfl (by decide : (1 : Nat) < 4) fun σ hE => ?_
  refine uSeq (uFor (uList (uLst (uCons (uCB (uCons ?_))))))
  refine st_var hE (i := 0) rfl fun v hE => ?_
  refine uNil ?_
  refine st_listI hE fun I H v hE => ?_
  replace hE := hE.listSeq
  refine uCons (uCB (uCons ?_))
  refine st_var hE (i := 0) rfl fun v hE => ?_
  refine uNil ?_
  refine st_tupleOf hE fun I H v hE => ?_
  replace hE := hE.tupSeq
  refine uCons (uCB (uCons ?_))
  refine st_var hE (i := 0) rfl fun v hE => ?_
  refine uNil ?_
  refine st_listI hE fun I H v hE => ?_
  replace hE := hE.listSeq
  refine uNil ?_
  refine st_lstI (α := (SeqL Tx)) _ [(SeqL.mk words), (SeqL.mk (TupL.mk words).l), (SeqL.mk words)] rfl (by decide : (3 : Nat) ≤ line) hE fun I H v hE => ?_
  refine it_list hE fun ja hJ => ?_
  refine st_for (α := (SeqL Tx)) hJ (RetP K ρ Θ (fun b => .im b) Q) (fun (_ : Unit) => [.im (words : (List Tx)), .im (t1 : PyData), .any, .any]) hE ⟨.inr rfl, .inr rfl, .inl rfl, .inl rfl, trivial⟩ h (fun r h => h) (fun handed s I H σ v N B hE h => ?_) (fun s I H σ hE h => ?_)
  ·
    refine st_store (Γ' := [.im (words : (List Tx)), .im (t1 : PyData), .im (handed : (SeqL Tx)), .any]) hE rfl (by decide : (2 : Nat) < 4) fun σ hE => ?_
    refine uSeq (uAsg (uCallS (uCons ?_)))
    refine st_var hE (i := 2) rfl fun v hE => ?_
    refine uNil ?_
    refine st_call handed hE rfl rfl h (fun e x I' H' cls d hm z => x _ H' cls d hm z.clear.nip) fun t2 I H v hE h => ?_
    refine st_store (Γ' := [.im (words : (List Tx)), .im (t1 : PyData), .im (handed : (SeqL Tx)), .im (t2 : PyData)]) hE rfl (by decide : (3 : Nat) < 4) fun σ hE => ?_
    refine uSeq (uIf ?_)
    refine st_tj hE (fun (s : Unit) => [.im (words : (List Tx)), .im (t1 : PyData), .im (handed : (SeqL Tx)), .im (t2 : PyData)]) h (fun h => ?_) (fun b6 s I H hE h => ?_)
    ·
      refine uOr (uTest (uOp (uCB (uCons ?_))))
      refine st_var hE (i := 2) rfl fun v hE => ?_
      refine uNil ?_
      refine st_listSI hE fun I H v hE => ?_
      refine st_var hE (i := 0) rfl fun v hE => ?_
      refine st_neD hE (by decide) h fun t3 v hE h => ?_
      refine st_vb hE fun hE => ?_
      refine st_ite h (fun h => ?_) (fun h => ?_)
      ·
        exact h _ _ hE
      ·
        refine uTest (uOp (uCallKS (uNil (uCons ?_))))
        refine st_var hE (i := 2) rfl fun v hE => ?_
        refine uNil ?_
        refine ⟨rfl, rfl, ?_⟩
        refine st_call handed hE rfl rfl h (fun e x I' H' cls d hm z => x _ H' cls d hm z.clear.nip) fun t4 I H v hE h => ?_
        refine st_var hE (i := 3) rfl fun v hE => ?_
        refine st_neV hE h fun t5 v hE h => ?_
        refine st_vb hE fun hE => ?_
        exact h _ _ hE
    refine st_ite h (fun h => ?_) (fun h => ?_)
    ·
      exact st_ret hE.pop (hf_c (a := false) rfl trivial) h
    ·
      refine uNext (uSeq ?_)
      refine st_if hE (ht_and_pp (ht_tt (hf_isNon rfl)) (ht_tt (hf_notNon rfl))) h (fun h => ?_) (fun h => ?_)
      ·
        exact st_ret hE.pop (hf_c (a := false) rfl trivial) h
      ·
        refine uNext (uIf ?_)
        refine st_tj hE (fun (s : Unit) => [.im (words : (List Tx)), .im (t1 : PyData), .im (handed : (SeqL Tx)), .im (t2 : PyData)]) h (fun h => ?_) (fun b9 s I H hE h => ?_)
        ·
          refine uAnd ?_
          refine st_htp hE (ht_tt (hf_notNon rfl)) ?_
          refine st_ite h (fun h => ?_) (fun h => ?_)
          ·
            refine st_tj hE (fun (s : Unit) => [.im (words : (List Tx)), .im (t1 : PyData), .im (handed : (SeqL Tx)), .im (t2 : PyData)]) h (fun h => ?_) (fun b8 s I H hE h => ?_)
            ·
              refine uOr ?_
              refine st_htp hE (ht_not_p (ht_B (hf_isDt rfl (by decide)))) ?_
              refine st_ite h (fun h => ?_) (fun h => ?_)
              ·
                exact h _ _ hE
              ·
                refine uTest (uOp ?_)
                refine st_var hE (i := 3) rfl fun v hE => ?_
                refine st_var hE (i := 1) rfl fun v hE => ?_
                refine st_neV hE h fun t7 v hE h => ?_
                refine st_vb hE fun hE => ?_
                exact h _ _ hE
            exact h _ _ hE
          ·
            exact h _ _ hE
        refine st_ite h (fun h => ?_) (fun h => ?_)
        ·
          exact st_ret hE.pop (hf_c (a := false) rfl trivial) h
        ·
          refine uNext ?_
          exact h _ _ _ (hE.weak (Γ' := [.im (words : (List Tx)), .im (t1 : PyData), .any, .any]) ⟨.inr rfl, .inr rfl, .inl rfl, .inl rfl, trivial⟩)
  exact st_ret hE (hf_c (a := true) rfl trivial) h

theorem ok_law_told (T : Txt Pg w K mg) : FnOk Pg w K mg base (L2N.CX Pg w) 7 T.a_law_told T.d_law_told ["task", "given"] (SpM K mg 2 (fun (a : Int × (List Tx)) => [.im a.1, .im a.2]) (fun a => m_law_told a.1 a.2) (fun b => .im b)) := by
  refine okN T.F_law_told sc_law_told (fun vs H Q E h => h.1) fun cdv A outer s H vs Q E hr h => ?_
  obtain ⟨hl, ⟨task, given⟩, I, ρ, Θ, hE, h⟩ := h
  have hE : Env K I H (start N_law_told vs) [.im (task : Int), .im (given : (List Tx)), .any, .any] ρ Θ := st_start hE (by rw [hl]; first | rfl | done)
  refine ⟨_, (pss_one (ps_tryM rfl rfl sc_law_told.nd (fun W pn xe tk hp => (pss_cons (ps_if (pt_cmpR op_eq (pv 0) pe_int (nomark _)) (pss_one (ps_ret (pe_tup (pa_cons pe_str (pa_cons (pe_callS (ok_root (base := base) T) (hr.mono (by decide)) (by rfl) T.g_root T.F_root.kp T.b_root (fun σ => L2N.passAt tk σ) (pa_cons (pe_ix (r := rIxL K) ix_list (pv 1) pe_int (fun _ _ => rfl)) pa_nil)) pa_nil))))) pss_nil)
      (pss_cons (ps_if (pt_cmpR op_eq (pv 0) pe_int (nomark _)) (pss_one (ps_ret (pe_tup (pa_cons pe_str (pa_cons (pe_callS (ok_exponent (base := base) T) (hr.mono (by decide)) (by rfl) T.g_exponent T.F_exponent.kp T.b_exponent (fun σ => L2N.passAt tk σ) (pa_cons (pe_ix (r := rIxL K) ix_list (pv 1) pe_int (fun _ _ => rfl)) pa_nil)) pa_nil))))) pss_nil)
      (pss_cons (ps_if (pt_cmpR op_eq (pv 0) pe_int (nomark _)) (pss_one (ps_ret (pe_tup (pa_cons pe_str (pa_cons (pe_callS (ok_is_primitive (base := base) T) (hr.mono (by decide)) (by rfl) T.g_is_primitive T.F_is_primitive.kp T.b_is_primitive (fun σ => L2N.passAt tk σ) (pa_cons (pe_ix (r := rIxL K) ix_list (pv 1) pe_int (fun _ _ => rfl)) pa_nil)) pa_nil))))) pss_nil)
      (pss_cons (ps_if (pt_cmpR op_eq (pv 0) pe_int (nomark _)) (pss_one (ps_ret (pe_tup (pa_cons pe_str (pa_cons (pe_callS (ok_commute (base := base) T) (hr.mono (by decide)) (by rfl) T.g_commute T.F_commute.kp T.b_commute (fun σ => L2N.passAt tk σ) (pa_cons (pe_ix (r := rIxL K) ix_list (pv 1) pe_int (fun _ _ => rfl)) (pa_cons (pe_ix (r := rIxL K) ix_list (pv 1) pe_int (fun _ _ => rfl)) pa_nil))) pa_nil))))) pss_nil)
      (pss_one (ps_ret (pe_tup (pa_cons pe_str (pa_cons (pe_callS (ok_common_root (base := base) T) (hr.mono (by decide)) (by rfl) T.g_common_root T.F_common_root.kp T.b_common_root (fun σ => L2N.passAt tk σ) (pa_cons (pe_lstOf (K := K) rfl (by rfl) T.z_list (by decide +kernel) (pa_cons (pv 1) pa_nil)) pa_nil)) pa_nil)))))))))) (.as (i := 2) rfl rfl ⟨rfl, by decide, .inl T.gC_BadWord⟩ (fun a oe cls d pn hz hf => (pss_cons (ps_set (i := 3) sc_law_told.nd rfl (.inl rfl) (pe_and (pe_callB (call_isX hz.zc hf) (by rfl) T.z_isinstance (by decide +kernel) (pa_cons (pv 2) (pa_cons (pe_glob (v := .ref T.C_WordError) (by rfl) T.gC_WordError rfl) pa_nil))) (pe_one (pe_callB (call_isX hz.zc hf) (by rfl) T.z_isinstance (by decide +kernel) (pa_cons (pv 2) (pa_cons (pe_bltn (v := .ty "ValueError") (by rfl) T.z_ValueError (by decide +kernel) rfl) pa_nil))))))
      (pss_one (ps_ret (pe_tup (pa_cons pe_str (pa_cons (pe_xf (T.x_BadWord (base := base)).xf (T.x_BadWord (base := base)).no hz.zc hf (pv 2)) (pa_cons (pe_and (pv 3) (pe_one (pe_not (pe_callB (call_isX hz.zc hf) (by rfl) T.z_isinstance (by decide +kernel) (pa_cons (pv 2) (pa_cons (pe_glob (v := .ref T.C_TooMany) (by rfl) T.gC_TooMany rfl) pa_nil)))))) pa_nil)))))))) (.as (i := 2) rfl rfl ⟨rfl, by decide, .inl T.gC_TooMany⟩ (fun a oe cls d pn hz hf => (pss_cons (ps_set (i := 3) sc_law_told.nd rfl (.inl rfl) (pe_and (pe_callB (call_isX hz.zc hf) (by rfl) T.z_isinstance (by decide +kernel) (pa_cons (pv 2) (pa_cons (pe_glob (v := .ref T.C_WordError) (by rfl) T.gC_WordError rfl) pa_nil))) (pe_one (pe_callB (call_isX hz.zc hf) (by rfl) T.z_isinstance (by decide +kernel) (pa_cons (pv 2) (pa_cons (pe_bltn (v := .ty "ValueError") (by rfl) T.z_ValueError (by decide +kernel) rfl) pa_nil))))))
      (pss_one (ps_ret (pe_tup (pa_cons pe_str (pa_cons (pe_xf (T.x_TooMany (base := base)).xf (T.x_TooMany (base := base)).no hz.zc hf (pv 2)) (pa_cons (pe_and (pv 3) (pe_one (pe_not (pe_callB (call_isX hz.zc hf) (by rfl) T.z_isinstance (by decide +kernel) (pa_cons (pv 2) (pa_cons (pe_glob (v := .ref T.C_BadWord) (by rfl) T.gC_BadWord rfl) pa_nil)))))) pa_nil)))))))) .nil)))), ?_⟩
  generalize start N_law_told vs = σ at hE ⊢
  change wp (m_law_told task given) _ _ at h
  unfold m_law_told at h
  refine st_tryM (mg := mg) [.im (task : Int), .im (given : (List Tx)), .any, .any] (RetP K ρ Θ (fun b => .im b) Q) (fun (_ : Unit) => [.im (task : Int), .im (given : (List Tx)), .any, .any]) hE h (fun r h => h) (fun s I H σ hE h => ?_) (fun xe1 h σ => ?_) (fun hC1 h => ?_)
  rotate_left 1
  ·
    obtain ⟨b1_0, hx, h⟩ := hx_BadWord T h
    refine wg_as (i := 2) hx (by decide : (2 : Nat) < 4) (fun hb I H σ xa1 xd1 xc1 xm1 hE => ?_) (fun hb => ?_)
    ·
      rw [hb, if_pos rfl] at h
      replace hE : Env K _ _ _ [.im (task : Int), .im (given : (List Tx)), .im ((⟨xa1, xd1, xe1⟩ : ExV) : ExV), .any] _ _ := hE
      refine uSeq ?_
      refine st_setm (Γ' := fun (fair : Bool) => [.im (task : Int), .im (given : (List Tx)), .im ((⟨xa1, xd1, xe1⟩ : ExV) : ExV), .im (fair : Bool)]) hE (hf_and_m (hf_isX (hΓ := rfl) (fun _ h => h) (is_WordError_ok T xm1)) (hf_isX (hΓ := rfl) (fun _ h => h) (is_ValueError_ok T xm1))) h (fun _ => rfl) (by decide : (3 : Nat) < 4) fun fair σ hE h => ?_
      refine uRet (uTpl (uCons ?_))
      refine st_push hE (hf_c (a := ([66, 97, 100, 87, 111, 114, 100] : Tx)) (by decide +kernel) (by decide : (7 : Nat) ≤ line)) fun hE => ?_
      replace hE := hE.toDt
      refine uCons ?_
      refine st_pushm hE (hf_fldT (hΓ := rfl) xm1 (T.x_BadWord (base := base)).gC) h fun t13 hE h => ?_
      replace hE := hE.toDt
      refine uCons ?_
      refine st_pushm hE (hf_and_pm (hf_var rfl) (hf_not_m (hf_isX (hΓ := rfl) (fun _ h => h) (is_TooMany_ok T xm1)))) h fun t14 hE h => ?_
      replace hE := hE.toDt
      refine uNil ?_
      refine st_tupL (α := PyData) _ [(Dat.toD (α := Tx) ([66, 97, 100, 87, 111, 114, 100] : Tx)), (Dat.toD (α := Tx) t13), (Dat.toD (α := Bool) t14)] rfl (by decide : (3 : Nat) ≤ line) hE fun I H v hE => ?_
      replace hE := hE.tupDt
      exact h _ _ _ hE.clear
    ·
      rw [hb, if_neg (by decide)] at h
      obtain ⟨b1_1, hx, h⟩ := hx_TooMany T h
      refine wg_as (i := 2) hx (by decide : (2 : Nat) < 4) (fun hb I H σ xa1 xd1 xc1 xm1 hE => ?_) (fun hb => ?_)
      ·
        rw [hb, if_pos rfl] at h
        replace hE : Env K _ _ _ [.im (task : Int), .im (given : (List Tx)), .im ((⟨xa1, xd1, xe1⟩ : ExV) : ExV), .any] _ _ := hE
        refine uSeq ?_
        refine st_setm (Γ' := fun (fair : Bool) => [.im (task : Int), .im (given : (List Tx)), .im ((⟨xa1, xd1, xe1⟩ : ExV) : ExV), .im (fair : Bool)]) hE (hf_and_m (hf_isX (hΓ := rfl) (fun _ h => h) (is_WordError_ok T xm1)) (hf_isX (hΓ := rfl) (fun _ h => h) (is_ValueError_ok T xm1))) h (fun _ => rfl) (by decide : (3 : Nat) < 4) fun fair σ hE h => ?_
        refine uRet (uTpl (uCons ?_))
        refine st_push hE (hf_c (a := ([84, 111, 111, 77, 97, 110, 121] : Tx)) (by decide +kernel) (by decide : (7 : Nat) ≤ line)) fun hE => ?_
        replace hE := hE.toDt
        refine uCons ?_
        refine st_pushm hE (hf_fldI (hΓ := rfl) xm1 (T.x_TooMany (base := base)).gC) h fun t16 hE h => ?_
        replace hE := hE.toDt
        refine uCons ?_
        refine st_pushm hE (hf_and_pm (hf_var rfl) (hf_not_m (hf_isX (hΓ := rfl) (fun _ h => h) (is_BadWord_ok T xm1)))) h fun t17 hE h => ?_
        replace hE := hE.toDt
        refine uNil ?_
        refine st_tupL (α := PyData) _ [(Dat.toD (α := Tx) ([84, 111, 111, 77, 97, 110, 121] : Tx)), (Dat.toD (α := Int) t16), (Dat.toD (α := Bool) t17)] rfl (by decide : (3 : Nat) ≤ line) hE fun I H v hE => ?_
        replace hE := hE.tupDt
        exact h _ _ _ hE.clear
      ·
        rw [hb, if_neg (by decide)] at h
        exact h.elim
  ·
    refine uSeq ?_
    refine st_if hE (ht_tt (hf_pp hr_eqI (hf_var rfl) (hf_c (a := (0 : Int)) rfl trivial))) h (fun h => ?_) (fun h => ?_)
    ·
      refine uRet (uTpl (uCons ?_))
      refine st_push hE (hf_c (a := ([116, 111, 108, 100] : Tx)) (by decide +kernel) (by decide : (4 : Nat) ≤ line)) fun hE => ?_
      replace hE := hE.toDt
      refine uCons (uCallS (uCons ?_))
      refine st_pushm hE (hf_ixLp rfl (hf_c (a := (0 : Int)) rfl trivial)) h fun t2 hE h => ?_
      refine uNil ?_
      refine st_call t2 hE rfl rfl h (fun e x I' H' cls d hm z => hC1 e x _ _ H' cls d hm (Env.weak (Γ' := [.im (task : Int), .im (given : (List Tx)), .any, .any]) z.nip ⟨.inr rfl, .inr rfl, .inl rfl, .inl rfl, trivial⟩)) fun t3 I H v hE h => ?_
      replace hE := hE.toDt
      refine uNil ?_
      refine st_tupL (α := PyData) _ [(Dat.toD (α := Tx) ([116, 111, 108, 100] : Tx)), (Dat.toD (α := Tx) t3)] rfl (by decide : (2 : Nat) ≤ line) hE fun I H v hE => ?_
      replace hE := hE.tupDt
      exact h _ _ _ hE.clear
    ·
      refine uNext (uSeq ?_)
      refine st_if hE (ht_tt (hf_pp hr_eqI (hf_var rfl) (hf_c (a := (1 : Int)) rfl trivial))) h (fun h => ?_) (fun h => ?_)
      ·
        refine uRet (uTpl (uCons ?_))
        refine st_push hE (hf_c (a := ([116, 111, 108, 100] : Tx)) (by decide +kernel) (by decide : (4 : Nat) ≤ line)) fun hE => ?_
        replace hE := hE.toDt
        refine uCons (uCallS (uCons ?_))
        refine st_pushm hE (hf_ixLp rfl (hf_c (a := (0 : Int)) rfl trivial)) h fun t4 hE h => ?_
        refine uNil ?_
        refine st_call t4 hE rfl rfl h (fun e x I' H' cls d hm z => hC1 e x _ _ H' cls d hm (Env.weak (Γ' := [.im (task : Int), .im (given : (List Tx)), .any, .any]) z.nip ⟨.inr rfl, .inr rfl, .inl rfl, .inl rfl, trivial⟩)) fun t5 I H v hE h => ?_
        replace hE := hE.toDt
        refine uNil ?_
        refine st_tupL (α := PyData) _ [(Dat.toD (α := Tx) ([116, 111, 108, 100] : Tx)), (Dat.toD (α := Int) t5)] rfl (by decide : (2 : Nat) ≤ line) hE fun I H v hE => ?_
        replace hE := hE.tupDt
        exact h _ _ _ hE.clear
      ·
        refine uNext (uSeq ?_)
        refine st_if hE (ht_tt (hf_pp hr_eqI (hf_var rfl) (hf_c (a := (2 : Int)) rfl trivial))) h (fun h => ?_) (fun h => ?_)
        ·
          refine uRet (uTpl (uCons ?_))
          refine st_push hE (hf_c (a := ([116, 111, 108, 100] : Tx)) (by decide +kernel) (by decide : (4 : Nat) ≤ line)) fun hE => ?_
          replace hE := hE.toDt
          refine uCons (uCallS (uCons ?_))
          refine st_pushm hE (hf_ixLp rfl (hf_c (a := (0 : Int)) rfl trivial)) h fun t6 hE h => ?_
          refine uNil ?_
          refine st_call t6 hE rfl rfl h (fun e x I' H' cls d hm z => hC1 e x _ _ H' cls d hm (Env.weak (Γ' := [.im (task : Int), .im (given : (List Tx)), .any, .any]) z.nip ⟨.inr rfl, .inr rfl, .inl rfl, .inl rfl, trivial⟩)) fun t7 I H v hE h => ?_
          replace hE := hE.toDt
          refine uNil ?_
          refine st_tupL (α := PyData) _ [(Dat.toD (α := Tx) ([116, 111, 108, 100] : Tx)), (Dat.toD (α := Bool) t7)] rfl (by decide : (2 : Nat) ≤ line) hE fun I H v hE => ?_
          replace hE := hE.tupDt
          exact h _ _ _ hE.clear
        ·
          refine uNext (uSeq ?_)
          refine st_if hE (ht_tt (hf_pp hr_eqI (hf_var rfl) (hf_c (a := (3 : Int)) rfl trivial))) h (fun h => ?_) (fun h => ?_)
          ·
            refine uRet (uTpl (uCons ?_))
            refine st_push hE (hf_c (a := ([116, 111, 108, 100] : Tx)) (by decide +kernel) (by decide : (4 : Nat) ≤ line)) fun hE => ?_
            replace hE := hE.toDt
            refine uCons (uCallS (uCons ?_))
            refine st_pushm hE (hf_ixLp rfl (hf_c (a := (0 : Int)) rfl trivial)) h fun t8 hE h => ?_
            refine uCons ?_
            refine st_pushm hE (hf_ixLp rfl (hf_c (a := (1 : Int)) rfl trivial)) h fun t9 hE h => ?_
            refine uNil ?_
            refine st_call (t8, t9) hE rfl rfl h (fun e x I' H' cls d hm z => hC1 e x _ _ H' cls d hm (Env.weak (Γ' := [.im (task : Int), .im (given : (List Tx)), .any, .any]) z.nip ⟨.inr rfl, .inr rfl, .inl rfl, .inl rfl, trivial⟩)) fun t10 I H v hE h => ?_
            replace hE := hE.toDt
            refine uNil ?_
            refine st_tupL (α := PyData) _ [(Dat.toD (α := Tx) ([116, 111, 108, 100] : Tx)), (Dat.toD (α := Bool) t10)] rfl (by decide : (2 : Nat) ≤ line) hE fun I H v hE => ?_
            replace hE := hE.tupDt
            exact h _ _ _ hE.clear
          ·
            refine uNext (uRet (uTpl (uCons ?_)))
            refine st_push hE (hf_c (a := ([116, 111, 108, 100] : Tx)) (by decide +kernel) (by decide : (4 : Nat) ≤ line)) fun hE => ?_
            replace hE := hE.toDt
            refine uCons (uCallS (uCons (uCB (uCons ?_))))
            refine st_var hE (i := 1) rfl fun v hE => ?_
            refine uNil ?_
            refine st_listI hE fun I H v hE => ?_
            replace hE := hE.listSeq
            refine uNil ?_
            refine st_call (SeqL.mk given) hE rfl rfl h (fun e x I' H' cls d hm z => hC1 e x _ _ H' cls d hm (Env.weak (Γ' := [.im (task : Int), .im (given : (List Tx)), .any, .any]) z.nip ⟨.inr rfl, .inr rfl, .inl rfl, .inl rfl, trivial⟩)) fun t11 I H v hE h => ?_
            refine uNil ?_
            refine st_tupL (α := PyData) _ [(Dat.toD (α := Tx) ([116, 111, 108, 100] : Tx)), t11] rfl (by decide : (2 : Nat) ≤ line) hE fun I H v hE => ?_
            replace hE := hE.tupDt
            exact h _ _ _ hE.clear
  exact h.elim

theorem ok_law_refuses (T : Txt Pg w K mg) : FnOk Pg w K mg base (L2N.CX Pg w) 8 T.a_law_refuses T.d_law_refuses ["words", "at", "word", "bad"] (SpM K mg 4 (fun (a : (List Tx) × Int × Tx × Tx) => [.im a.1, .im a.2.1, .im a.2.2.1, .im a.2.2.2]) (fun a => m_law_refuses a.1 a.2.1 a.2.2.1 a.2.2.2) (fun b => .im b)) := by
  refine okN T.F_law_refuses sc_law_refuses (fun vs H Q E h => h.1) fun cdv A outer s H vs Q E hr h => ?_
  obtain ⟨hl, ⟨words, at_, word, bad⟩, I, ρ, Θ, hE, h⟩ := h
  have hE : Env K I H (start N_law_refuses vs) [.im (words : (List Tx)), .im (at_ : Int), .im (word : Tx), .im (bad : Tx), .any, .any, .any, .any] ρ Θ := st_start hE (by rw [hl]; first | rfl | done)
  refine ⟨_, (pss_cons (ps_set (i := 4) sc_law_refuses.nd rfl (.inl rfl) (pe_tup (pa_cons pe_str (pa_cons (pv 3) (pa_cons pe_bl pa_nil)))))
      (pss_cons (ps_for (passes_of rfl) rfl (pi_range1 (by rfl) T.z_range (pa_cons pe_int pa_nil)) (pg_name (i := 5) sc_law_refuses.nd rfl (.inl rfl)) (pss_one (ps_if (pt_cmpR (op_neD hr.units) (pe_callS (ok_law_told (base := base) T) (hr.mono (by decide)) (by rfl) T.g_law_told T.F_law_told.kp T.b_law_told (fun σ => L2N.passAt (L2N.takes_of rfl rfl rfl rfl) σ) (pa_cons (pv 5) (pa_cons (pe_lst (pa_cons (pv 3) pa_nil)) pa_nil))) (pv 4) (nomark _)) (pss_one (ps_ret pe_bl)) pss_nil)))
      (pss_cons (ps_for (passes_of rfl) rfl (pi_list (pe_lst (pa_cons (pe_lst (pa_cons (pv 3) (pa_cons (pv 2) pa_nil))) (pa_cons (pe_lst (pa_cons (pv 2) (pa_cons (pv 3) pa_nil))) (pa_cons (pe_lst (pa_cons (pv 3) (pa_cons (pv 3) pa_nil))) pa_nil))))) (pg_name (i := 6) sc_law_refuses.nd rfl (.inl rfl)) (pss_one (ps_if (pt_cmpR (op_neD hr.units) (pe_callS (ok_law_told (base := base) T) (hr.mono (by decide)) (by rfl) T.g_law_told T.F_law_told.kp T.b_law_told (fun σ => L2N.passAt (L2N.takes_of rfl rfl rfl rfl) σ) (pa_cons pe_int (pa_cons (pv 6) pa_nil))) (pv 4) (nomark _)) (pss_one (ps_ret pe_bl)) pss_nil)))
      (pss_cons (ps_set (i := 7) sc_law_refuses.nd rfl (.inl rfl) (pe_op op_cat (pe_op op_cat (pe_slice sl_list (pv 0) po_none (po_some (pv 1))) (pe_lst (pa_cons (pv 3) pa_nil))) (pe_slice sl_list (pv 0) (po_some (pe_op op_add (pv 1) pe_int)) po_none)))
      (pss_cons (ps_for (passes_of rfl) rfl (pi_list (pe_lst (pa_cons (pv 7) (pa_cons (pe_op op_cat (pe_op op_rep (pe_lst (pa_cons (pv 2) pa_nil)) pe_int) (pe_lst (pa_cons (pv 3) pa_nil))) (pa_cons (pe_lst (pa_cons (pv 3) pa_nil)) pa_nil))))) (pg_name (i := 6) sc_law_refuses.nd rfl (.inl rfl)) (pss_one (ps_if (pt_cmpR (op_neD hr.units) (pe_callS (ok_law_told (base := base) T) (hr.mono (by decide)) (by rfl) T.g_law_told T.F_law_told.kp T.b_law_told (fun σ => L2N.passAt (L2N.takes_of rfl rfl rfl rfl) σ) (pa_cons pe_int (pa_cons (pv 6) pa_nil))) (pv 4) (nomark _)) (pss_one (ps_ret pe_bl)) pss_nil)))
      (pss_one (ps_ret (pe_cmpR (op_eqD hr.units) (pe_callS (ok_law_told (base := base) T) (hr.mono (by decide)) (by rfl) T.g_law_told T.F_law_told.kp T.b_law_told (fun σ => L2N.passAt (L2N.takes_of rfl rfl rfl rfl) σ) (pa_cons pe_int (pa_cons (pe_op op_cat (pe_lst (pa_cons (pv 3) pa_nil)) (pe_op op_rep (pe_lst (pa_cons (pv 2) pa_nil)) pe_int)) pa_nil))) (pe_tup (pa_cons pe_str (pa_cons pe_int (pa_cons pe_bl pa_nil)))) (nomark _))))))))), ?_⟩
  generalize start N_law_refuses vs = σ at hE ⊢
  change wp (m_law_refuses words at_ word bad) _ _ at h
  unfold m_law_refuses at h
  refine uSeq (uAsg (uTpl (uCons ?_)))
  refine st_push hE (hf_c (a := ([66, 97, 100, 87, 111, 114, 100] : Tx)) (by decide +kernel) (by decide : (7 : Nat) ≤ line)) fun hE => ?_
  replace hE := hE.toDt
  refine uCons ?_
  refine st_push hE (hf_var rfl) fun hE => ?_
  replace hE := hE.toDt
  refine uCons ?_
  refine st_push hE (hf_c (a := true) rfl trivial) fun hE => ?_
  replace hE := hE.toDt
  refine uNil ?_
  refine st_tupL (α := PyData) _ [(Dat.toD (α := Tx) ([66, 97, 100, 87, 111, 114, 100] : Tx)), (Dat.toD (α := Tx) bad), (Dat.toD (α := Bool) true)] rfl (by decide : (3 : Nat) ≤ line) hE fun I H v hE => ?_
  replace hE := hE.tupDt
  refine st_name hE h fun due hE h => ?_
  refine st_store (Γ' := [.im (words : (List Tx)), .im (at_ : Int), .im (word : Tx), .im (bad : Tx), .im (due : PyData), .any, .any, .any]) hE rfl (by decide : (4 : Nat) < 8) fun σ hE => ?_
  refine uSeq (uFor ?_)
  refine it_rng1 hE (hf_c (a := (3 : Int)) rfl trivial) h fun xs1 h J hJ => ?_
  refine st_for (α := Int) hJ (RetP K ρ Θ (fun b => .im b) Q) (fun (_ : Unit) => [.im (words : (List Tx)), .im (at_ : Int), .im (word : Tx), .im (bad : Tx), .im (due : PyData), .any, .any, .any]) hE ⟨.inr rfl, .inr rfl, .inr rfl, .inr rfl, .inr rfl, .inl rfl, .inl rfl, .inl rfl, trivial⟩ h (fun r h => h) (fun task s I H σ v N B hE h => ?_) (fun s I H σ hE h => ?_)
  ·
    refine st_store (Γ' := [.im (words : (List Tx)), .im (at_ : Int), .im (word : Tx), .im (bad : Tx), .im (due : PyData), .im (task : Int), .any, .any]) hE rfl (by decide : (5 : Nat) < 8) fun σ hE => ?_
    refine uIf (uTest (uOp (uCallS (uCons ?_))))
    refine st_push hE (hf_var rfl) fun hE => ?_
    refine uCons (uLst (uCons ?_))
    refine st_push hE (hf_var rfl) fun hE => ?_
    refine uNil ?_
    refine st_lstI (α := Tx) _ [bad] rfl (by decide : (1 : Nat) ≤ line) hE fun I H v hE => ?_
    refine uNil ?_
    refine st_call (task, [bad]) hE rfl rfl h (fun e x I' H' cls d hm z => x _ H' cls d hm z.clear) fun t2 I H v hE h => ?_
    refine st_var hE (i := 4) rfl fun v hE => ?_
    refine st_neV hE h fun t3 v hE h => ?_
    refine st_vb hE fun hE => ?_
    refine st_ite h (fun h => ?_) (fun h => ?_)
    ·
      exact st_ret hE (hf_c (a := false) rfl trivial) h
    ·
      refine uNext ?_
      exact h _ _ _ (hE.weak (Γ' := [.im (words : (List Tx)), .im (at_ : Int), .im (word : Tx), .im (bad : Tx), .im (due : PyData), .any, .any, .any]) ⟨.inr rfl, .inr rfl, .inr rfl, .inr rfl, .inr rfl, .inl rfl, .inl rfl, .inl rfl, trivial⟩)
  refine uSeq (uFor (uList (uLst (uCons (uLst (uCons ?_))))))
  refine st_push hE (hf_var rfl) fun hE => ?_
  refine uCons ?_
  refine st_push hE (hf_var rfl) fun hE => ?_
  refine uNil ?_
  refine st_lstI (α := Tx) _ [bad, word] rfl (by decide : (2 : Nat) ≤ line) hE fun I H v hE => ?_
  refine uCons (uLst (uCons ?_))
  refine st_push hE (hf_var rfl) fun hE => ?_
  refine uCons ?_
  refine st_push hE (hf_var rfl) fun hE => ?_
  refine uNil ?_
  refine st_lstI (α := Tx) _ [word, bad] rfl (by decide : (2 : Nat) ≤ line) hE fun I H v hE => ?_
  refine uCons (uLst (uCons ?_))
  refine st_push hE (hf_var rfl) fun hE => ?_
  refine uCons ?_
  refine st_push hE (hf_var rfl) fun hE => ?_
  refine uNil ?_
  refine st_lstI (α := Tx) _ [bad, bad] rfl (by decide : (2 : Nat) ≤ line) hE fun I H v hE => ?_
  refine uNil ?_
  refine st_lstI (α := (List Tx)) _ [[bad, word], [word, bad], [bad, bad]] rfl (by decide : (3 : Nat) ≤ line) hE fun I H v hE => ?_
  refine it_list hE fun ja hJ => ?_
  refine st_for (α := (List Tx)) hJ (RetP K ρ Θ (fun b => .im b) Q) (fun (_ : Unit) => [.im (words : (List Tx)), .im (at_ : Int), .im (word : Tx), .im (bad : Tx), .im (due : PyData), .any, .any, .any]) hE ⟨.inr rfl, .inr rfl, .inr rfl, .inr rfl, .inr rfl, .inl rfl, .inl rfl, .inl rfl, trivial⟩ h (fun r h => h) (fun given s I H σ v N B hE h => ?_) (fun s I H σ hE h => ?_)
  ·
    refine st_store (Γ' := [.im (words : (List Tx)), .im (at_ : Int), .im (word : Tx), .im (bad : Tx), .im (due : PyData), .any, .im (given : (List Tx)), .any]) hE rfl (by decide : (6 : Nat) < 8) fun σ hE => ?_
    refine uIf (uTest (uOp (uCallS (uCons ?_))))
    refine st_push hE (hf_c (a := (3 : Int)) rfl trivial) fun hE => ?_
    refine uCons ?_
    refine st_var hE (i := 6) rfl fun v hE => ?_
    refine uNil ?_
    refine st_call ((3 : Int), given) hE rfl rfl h (fun e x I' H' cls d hm z => x _ H' cls d hm z.clear.nip) fun t5 I H v hE h => ?_
    refine st_var hE (i := 4) rfl fun v hE => ?_
    refine st_neV hE h fun t6 v hE h => ?_
    refine st_vb hE fun hE => ?_
    refine st_ite h (fun h => ?_) (fun h => ?_)
    ·
      exact st_ret hE.pop (hf_c (a := false) rfl trivial) h
    ·
      refine uNext ?_
      exact h _ _ _ (hE.weak (Γ' := [.im (words : (List Tx)), .im (at_ : Int), .im (word : Tx), .im (bad : Tx), .im (due : PyData), .any, .any, .any]) ⟨.inr rfl, .inr rfl, .inr rfl, .inr rfl, .inr rfl, .inl rfl, .inl rfl, .inl rfl, trivial⟩)
  refine uSeq (uAsg (uOp (uOp (uSl ?_))))
  refine st_var hE (i := 0) rfl fun v hE => ?_
  refine st_bdp hE ho_none ?_
  refine st_bdp hE (ho_p (hf_var rfl)) ?_
  refine st_slL hE fun I H v hE => ?_
  refine uLst (uCons ?_)
  refine st_push hE (hf_var rfl) fun hE => ?_
  refine uNil ?_
  refine st_lstI (α := Tx) _ [bad] rfl (by decide : (1 : Nat) ≤ line) hE fun I H v hE => ?_
  refine st_catI hE h fun t8 I H v hE h => ?_
  refine uSl ?_
  refine st_var hE (i := 0) rfl fun v hE => ?_
  refine st_bdp hE (ho_p (hf_pp hr_add (hf_var rfl) (hf_c (a := (1 : Int)) rfl trivial))) ?_
  refine st_bdp hE ho_none ?_
  refine st_slL hE fun I H v hE => ?_
  refine st_catI hE h fun t9 I H v hE h => ?_
  refine st_store (Γ' := [.im (words : (List Tx)), .im (at_ : Int), .im (word : Tx), .im (bad : Tx), .im (due : PyData), .any, .any, .im (t9 : (List Tx))]) hE rfl (by decide : (7 : Nat) < 8) fun σ hE => ?_
  refine uSeq (uFor (uList (uLst (uCons ?_))))
  refine st_var hE (i := 7) rfl fun v hE => ?_
  refine uCons (uOp (uOp (uLst (uCons ?_))))
  refine st_push hE (hf_var rfl) fun hE => ?_
  refine uNil ?_
  refine st_lstI (α := Tx) _ [word] rfl (by decide : (1 : Nat) ≤ line) hE fun I H v hE => ?_
  refine st_push hE (hf_c (a := (19 : Int)) rfl trivial) fun hE => ?_
  refine st_repI hE h fun t10 I H v hE h => ?_
  refine uLst (uCons ?_)
  refine st_push hE (hf_var rfl) fun hE => ?_
  refine uNil ?_
  refine st_lstI (α := Tx) _ [bad] rfl (by decide : (1 : Nat) ≤ line) hE fun I H v hE => ?_
  refine st_catI hE h fun t11 I H v hE h => ?_
  refine uCons (uLst (uCons ?_))
  refine st_push hE (hf_var rfl) fun hE => ?_
  refine uNil ?_
  refine st_lstI (α := Tx) _ [bad] rfl (by decide : (1 : Nat) ≤ line) hE fun I H v hE => ?_
  refine uNil ?_
  refine st_lstI (α := (List Tx)) _ [t9, t11, [bad]] rfl (by decide : (3 : Nat) ≤ line) hE fun I H v hE => ?_
  refine it_list hE fun ja hJ => ?_
  refine st_for (α := (List Tx)) hJ (RetP K ρ Θ (fun b => .im b) Q) (fun (_ : Unit) => [.im (words : (List Tx)), .im (at_ : Int), .im (word : Tx), .im (bad : Tx), .im (due : PyData), .any, .any, .im (t9 : (List Tx))]) hE ⟨.inr rfl, .inr rfl, .inr rfl, .inr rfl, .inr rfl, .inl rfl, .inl rfl, .inr rfl, trivial⟩ h (fun r h => h) (fun given s I H σ v N B hE h => ?_) (fun s I H σ hE h => ?_)
  ·
    refine st_store (Γ' := [.im (words : (List Tx)), .im (at_ : Int), .im (word : Tx), .im (bad : Tx), .im (due : PyData), .any, .im (given : (List Tx)), .im (t9 : (List Tx))]) hE rfl (by decide : (6 : Nat) < 8) fun σ hE => ?_
    refine uIf (uTest (uOp (uCallS (uCons ?_))))
    refine st_push hE (hf_c (a := (4 : Int)) rfl trivial) fun hE => ?_
    refine uCons ?_
    refine st_var hE (i := 6) rfl fun v hE => ?_
    refine uNil ?_
    refine st_call ((4 : Int), given) hE rfl rfl h (fun e x I' H' cls d hm z => x _ H' cls d hm z.clear.nip) fun t12 I H v hE h => ?_
    refine st_var hE (i := 4) rfl fun v hE => ?_
    refine st_neV hE h fun t13 v hE h => ?_
    refine st_vb hE fun hE => ?_
    refine st_ite h (fun h => ?_) (fun h => ?_)
    ·
      exact st_ret hE.pop (hf_c (a := false) rfl trivial) h
    ·
      refine uNext ?_
      exact h _ _ _ (hE.weak (Γ' := [.im (words : (List Tx)), .im (at_ : Int), .im (word : Tx), .im (bad : Tx), .im (due : PyData), .any, .any, .im (t9 : (List Tx))]) ⟨.inr rfl, .inr rfl, .inr rfl, .inr rfl, .inr rfl, .inl rfl, .inl rfl, .inr rfl, trivial⟩)
  refine uRet (uOp (uCallS (uCons ?_)))
  refine st_push hE (hf_c (a := (4 : Int)) rfl trivial) fun hE => ?_
  refine uCons (uOp (uLst (uCons ?_)))
  refine st_push hE (hf_var rfl) fun hE => ?_
  refine uNil ?_
  refine st_lstI (α := Tx) _ [bad] rfl (by decide : (1 : Nat) ≤ line) hE fun I H v hE => ?_
  refine uOp (uLst (uCons ?_))
  refine st_push hE (hf_var rfl) fun hE => ?_
  refine uNil ?_
  refine st_lstI (α := Tx) _ [word] rfl (by decide : (1 : Nat) ≤ line) hE fun I H v hE => ?_
  refine st_push hE (hf_c (a := (20 : Int)) rfl trivial) fun hE => ?_
  refine st_repI hE h fun t15 I H v hE h => ?_
  refine st_catI hE h fun t16 I H v hE h => ?_
  refine uNil ?_
  refine st_call ((4 : Int), t16) hE rfl rfl h (fun e x I' H' cls d hm z => x _ H' cls d hm z.clear) fun t17 I H v hE h => ?_
  refine uTpl (uCons ?_)
  refine st_push hE (hf_c (a := ([84, 111, 111, 77, 97, 110, 121] : Tx)) (by decide +kernel) (by decide : (7 : Nat) ≤ line)) fun hE => ?_
  replace hE := hE.toDt
  refine uCons ?_
  refine st_push hE (hf_c (a := (20 : Int)) rfl trivial) fun hE => ?_
  replace hE := hE.toDt
  refine uCons ?_
  refine st_push hE (hf_c (a := true) rfl trivial) fun hE => ?_
  replace hE := hE.toDt
  refine uNil ?_
  refine st_tupL (α := PyData) _ [(Dat.toD (α := Tx) ([84, 111, 111, 77, 97, 110, 121] : Tx)), (Dat.toD (α := Int) (20 : Int)), (Dat.toD (α := Bool) true)] rfl (by decide : (3 : Nat) ≤ line) hE fun I H v hE => ?_
  replace hE := hE.tupDt
  refine st_eqV hE h fun t18 v hE h => ?_
  exact h _ _ _ hE.clear

theorem ok_law_refuses_first (T : Txt Pg w K mg) : FnOk Pg w K mg base (L2N.CX Pg w) 8 T.a_law_refuses_first T.d_law_refuses_first ["word", "odd", "much"] (SpM K mg 3 (fun (a : Tx × Tx × Tx) => [.im a.1, .im a.2.1, .im a.2.2]) (fun a => m_law_refuses_first a.1 a.2.1 a.2.2) (fun b => .im b)) := by
  refine okN T.F_law_refuses_first sc_law_refuses_first (fun vs H Q E h => h.1) fun cdv A outer s H vs Q E hr h => ?_
  obtain ⟨hl, ⟨word, odd, much⟩, I, ρ, Θ, hE, h⟩ := h
  have hE : Env K I H (start N_law_refuses_first vs) [.im (word : Tx), .im (odd : Tx), .im (much : Tx), .any, .any] ρ Θ := st_start hE (by rw [hl]; first | rfl | done)
  refine ⟨_, (pss_cons (ps_for (passes_of rfl) rfl (pi_list (pe_lst (pa_cons (pe_lst (pa_cons (pv 1) (pa_cons (pv 2) pa_nil))) (pa_cons (pe_lst (pa_cons (pv 2) (pa_cons (pv 1) pa_nil))) pa_nil)))) (pg_name (i := 3) sc_law_refuses_first.nd rfl (.inl rfl)) (pss_cons (ps_set (i := 4) sc_law_refuses_first.nd rfl (.inl rfl) (pe_tup (pa_cons pe_str (pa_cons (pe_ix ix_list (pv 3) pe_int (fun _ _ => rfl)) (pa_cons pe_bl pa_nil)))))
      (pss_cons (ps_if (PW.pt (pw_or (pt_cmpR (op_neD hr.units) (pe_callS (ok_law_told (base := base) T) (hr.mono (by decide)) (by rfl) T.g_law_told T.F_law_told.kp T.b_law_told (fun σ => L2N.passAt (L2N.takes_of rfl rfl rfl rfl) σ) (pa_cons pe_int (pa_cons (pv 3) pa_nil))) (pv 4) (nomark _)) (pw_or1 (pt_cmpR (op_neD hr.units) (pe_callS (ok_law_told (base := base) T) (hr.mono (by decide)) (by rfl) T.g_law_told T.F_law_told.kp T.b_law_told (fun σ => L2N.passAt (L2N.takes_of rfl rfl rfl rfl) σ) (pa_cons pe_int (pa_cons (pv 3) pa_nil))) (pv 4) (nomark _))))) (pss_one (ps_ret pe_bl)) pss_nil)
      (pss_one (ps_if (pt_cmpR (op_neD hr.units) (pe_callS (ok_law_told (base := base) T) (hr.mono (by decide)) (by rfl) T.g_law_told T.F_law_told.kp T.b_law_told (fun σ => L2N.passAt (L2N.takes_of rfl rfl rfl rfl) σ) (pa_cons pe_int (pa_cons (pe_lst (pa_cons (pv 0) (pa_cons (pe_ix ix_list (pv 3) pe_int (fun _ _ => rfl)) (pa_cons pe_str (pa_cons (pe_ix ix_list (pv 3) pe_int (fun _ _ => rfl)) pa_nil))))) pa_nil))) (pv 4) (nomark _)) (pss_one (ps_ret pe_bl)) pss_nil)))))
      (pss_one (ps_ret (pe_cmpR (op_eqD hr.units) (pe_callS (ok_law_told (base := base) T) (hr.mono (by decide)) (by rfl) T.g_law_told T.F_law_told.kp T.b_law_told (fun σ => L2N.passAt (L2N.takes_of rfl rfl rfl rfl) σ) (pa_cons pe_int (pa_cons (pe_op op_rep (pe_lst (pa_cons (pv 0) pa_nil)) pe_int) pa_nil))) (pe_tup (pa_cons pe_str (pa_cons pe_int (pa_cons pe_bl pa_nil)))) (nomark _))))), ?_⟩
  generalize start N_law_refuses_first vs = σ at hE ⊢
  change wp (m_law_refuses_first word odd much) _ _ at h
  unfold m_law_refuses_first at h
  refine uSeq (uFor (uList (uLst (uCons (uLst (uCons ?_))))))
  refine st_push hE (hf_var rfl) fun hE => ?_
  refine uCons ?_
  refine st_push hE (hf_var rfl) fun hE => ?_
  refine uNil ?_
  refine st_lstI (α := Tx) _ [odd, much] rfl (by decide : (2 : Nat) ≤ line) hE fun I H v hE => ?_
  refine uCons (uLst (uCons ?_))
  refine st_push hE (hf_var rfl) fun hE => ?_
  refine uCons ?_
  refine st_push hE (hf_var rfl) fun hE => ?_
  refine uNil ?_
  refine st_lstI (α := Tx) _ [much, odd] rfl (by decide : (2 : Nat) ≤ line) hE fun I H v hE => ?_
  refine uNil ?_
  refine st_lstI (α := (List Tx)) _ [[odd, much], [much, odd]] rfl (by decide : (2 : Nat) ≤ line) hE fun I H v hE => ?_
  refine it_list hE fun ja hJ => ?_
  refine st_for (α := (List Tx)) hJ (RetP K ρ Θ (fun b => .im b) Q) (fun (_ : Unit) => [.im (word : Tx), .im (odd : Tx), .im (much : Tx), .any, .any]) hE ⟨.inr rfl, .inr rfl, .inr rfl, .inl rfl, .inl rfl, trivial⟩ h (fun r h => h) (fun pair s I H σ v N B hE h => ?_) (fun s I H σ hE h => ?_)
  ·
    refine st_store (Γ' := [.im (word : Tx), .im (odd : Tx), .im (much : Tx), .im (pair : (List Tx)), .any]) hE rfl (by decide : (3 : Nat) < 5) fun σ hE => ?_
    refine uSeq (uAsg (uTpl (uCons ?_)))
    refine st_push hE (hf_c (a := ([66, 97, 100, 87, 111, 114, 100] : Tx)) (by decide +kernel) (by decide : (7 : Nat) ≤ line)) fun hE => ?_
    replace hE := hE.toDt
    refine uCons ?_
    refine st_pushm hE (hf_ixLp rfl (hf_c (a := (0 : Int)) rfl trivial)) h fun t1 hE h => ?_
    replace hE := hE.toDt
    refine uCons ?_
    refine st_push hE (hf_c (a := true) rfl trivial) fun hE => ?_
    replace hE := hE.toDt
    refine uNil ?_
    refine st_tupL (α := PyData) _ [(Dat.toD (α := Tx) ([66, 97, 100, 87, 111, 114, 100] : Tx)), (Dat.toD (α := Tx) t1), (Dat.toD (α := Bool) true)] rfl (by decide : (3 : Nat) ≤ line) hE fun I H v hE => ?_
    replace hE := hE.tupDt
    refine st_name hE h fun due hE h => ?_
    refine st_store (Γ' := [.im (word : Tx), .im (odd : Tx), .im (much : Tx), .im (pair : (List Tx)), .im (due : PyData)]) hE rfl (by decide : (4 : Nat) < 5) fun σ hE => ?_
    refine uSeq (uIf ?_)
    refine st_tj hE (fun (s : Unit) => [.im (word : Tx), .im (odd : Tx), .im (much : Tx), .im (pair : (List Tx)), .im (due : PyData)]) h (fun h => ?_) (fun b6 s I H hE h => ?_)
    ·
      refine uOr (uTest (uOp (uCallS (uCons ?_))))
      refine st_push hE (hf_c (a := (3 : Int)) rfl trivial) fun hE => ?_
      refine uCons ?_
      refine st_var hE (i := 3) rfl fun v hE => ?_
      refine uNil ?_
      refine st_call ((3 : Int), pair) hE rfl rfl h (fun e x I' H' cls d hm z => x _ H' cls d hm z.clear.nip) fun t2 I H v hE h => ?_
      refine st_var hE (i := 4) rfl fun v hE => ?_
      refine st_neV hE h fun t3 v hE h => ?_
      refine st_vb hE fun hE => ?_
      refine st_ite h (fun h => ?_) (fun h => ?_)
      ·
        exact h _ _ hE
      ·
        refine uTest (uOp (uCallS (uCons ?_)))
        refine st_push hE (hf_c (a := (4 : Int)) rfl trivial) fun hE => ?_
        refine uCons ?_
        refine st_var hE (i := 3) rfl fun v hE => ?_
        refine uNil ?_
        refine st_call ((4 : Int), pair) hE rfl rfl h (fun e x I' H' cls d hm z => x _ H' cls d hm z.clear.nip) fun t4 I H v hE h => ?_
        refine st_var hE (i := 4) rfl fun v hE => ?_
        refine st_neV hE h fun t5 v hE h => ?_
        refine st_vb hE fun hE => ?_
        exact h _ _ hE
    refine st_ite h (fun h => ?_) (fun h => ?_)
    ·
      exact st_ret hE.pop (hf_c (a := false) rfl trivial) h
    ·
      refine uNext (uIf (uTest (uOp (uCallS (uCons ?_)))))
      refine st_push hE (hf_c (a := (4 : Int)) rfl trivial) fun hE => ?_
      refine uCons (uLst (uCons ?_))
      refine st_push hE (hf_var rfl) fun hE => ?_
      refine uCons ?_
      refine st_pushm hE (hf_ixLp rfl (hf_c (a := (0 : Int)) rfl trivial)) h fun t7 hE h => ?_
      refine uCons ?_
      refine st_push hE (hf_c (a := ([] : Tx)) (by decide +kernel) (by decide : (0 : Nat) ≤ line)) fun hE => ?_
      refine uCons ?_
      refine st_pushm hE (hf_ixLp rfl (hf_c (a := (1 : Int)) rfl trivial)) h fun t8 hE h => ?_
      refine uNil ?_
      refine st_lstI (α := Tx) _ [word, t7, ([] : Tx), t8] rfl (by decide : (4 : Nat) ≤ line) hE fun I H v hE => ?_
      refine uNil ?_
      refine st_call ((4 : Int), [word, t7, ([] : Tx), t8]) hE rfl rfl h (fun e x I' H' cls d hm z => x _ H' cls d hm z.clear.nip) fun t9 I H v hE h => ?_
      refine st_var hE (i := 4) rfl fun v hE => ?_
      refine st_neV hE h fun t10 v hE h => ?_
      refine st_vb hE fun hE => ?_
      refine st_ite h (fun h => ?_) (fun h => ?_)
      ·
        exact st_ret hE.pop (hf_c (a := false) rfl trivial) h
      ·
        refine uNext ?_
        exact h _ _ _ (hE.weak (Γ' := [.im (word : Tx), .im (odd : Tx), .im (much : Tx), .any, .any]) ⟨.inr rfl, .inr rfl, .inr rfl, .inl rfl, .inl rfl, trivial⟩)
  refine uRet (uOp (uCallS (uCons ?_)))
  refine st_push hE (hf_c (a := (4 : Int)) rfl trivial) fun hE => ?_
  refine uCons (uOp (uLst (uCons ?_)))
  refine st_push hE (hf_var rfl) fun hE => ?_
  refine uNil ?_
  refine st_lstI (α := Tx) _ [word] rfl (by decide : (1 : Nat) ≤ line) hE fun I H v hE => ?_
  refine st_push hE (hf_c (a := (21 : Int)) rfl trivial) fun hE => ?_
  refine st_repI hE h fun t12 I H v hE h => ?_
  refine uNil ?_
  refine st_call ((4 : Int), t12) hE rfl rfl h (fun e x I' H' cls d hm z => x _ H' cls d hm z.clear) fun t13 I H v hE h => ?_
  refine uTpl (uCons ?_)
  refine st_push hE (hf_c (a := ([84, 111, 111, 77, 97, 110, 121] : Tx)) (by decide +kernel) (by decide : (7 : Nat) ≤ line)) fun hE => ?_
  replace hE := hE.toDt
  refine uCons ?_
  refine st_push hE (hf_c (a := (20 : Int)) rfl trivial) fun hE => ?_
  replace hE := hE.toDt
  refine uCons ?_
  refine st_push hE (hf_c (a := true) rfl trivial) fun hE => ?_
  replace hE := hE.toDt
  refine uNil ?_
  refine st_tupL (α := PyData) _ [(Dat.toD (α := Tx) ([84, 111, 111, 77, 97, 110, 121] : Tx)), (Dat.toD (α := Int) (20 : Int)), (Dat.toD (α := Bool) true)] rfl (by decide : (3 : Nat) ≤ line) hE fun I H v hE => ?_
  replace hE := hE.tupDt
  refine st_eqV hE h fun t14 v hE h => ?_
  exact h _ _ _ hE.clear

theorem ok_law (T : Txt Pg w K mg) : FnOk Pg w K mg base (L2N.CX Pg w) 9 T.a_law T.d_law ["script"] (SpM K mg 1 (fun (a : Scr) => [.im a]) (fun a => m_law a) (fun b => .im b)) := by
  refine okN T.F_law sc_law (fun vs H Q E h => h.1) fun cdv A outer s H vs Q E hr h => ?_
  obtain ⟨hl, script, I, ρ, Θ, hE, h⟩ := h
  have hE : Env K I H (start N_law vs) [.im (script : Scr), .any, .any, .any, .any, .any, .any, .any, .any, .any, .any, .any, .any, .any, .any, .any, .any, .any, .any, .any, .any, .any] ρ Θ := st_start hE (by rw [hl]; first | rfl | done)
  refine ⟨_, (pss_cons (ps_set (i := 1) sc_law.nd rfl (.inr rfl) (pe_callS (ok_law_pool (base := base) T) (hr.mono (by decide)) (by rfl) T.g_law_pool T.F_law_pool.kp T.b_law_pool (fun σ => L2N.passAt (L2N.takes_of rfl rfl rfl rfl) σ) (pa_cons (pe_slice sl_list (pv 0) po_none (po_some pe_int)) pa_nil)))
      (pss_cons (ps_set (i := 2) sc_law.nd rfl (.inr rfl) pe_str)
      (pss_cons (ps_setLc (i := 3) (own := [("k", 20)]) (g := gName 20) (by rfl) sc_law.nd rfl rfl (sw_true rfl rfl rfl (by decide +kernel)) (pi_range1 (by rfl) T.z_range (pa_cons (pe_op op_add pe_int (pe_callS (ok_law_draw (base := base) T) (hr.mono (by decide)) (by rfl) T.g_law_draw T.F_law_draw.kp T.b_law_draw (fun σ => L2N.passAt (L2N.takes_of rfl rfl rfl rfl) σ) (pa_cons (pv 1) (pa_cons pe_int (pa_cons pe_int pa_nil))))) pa_nil)) (blkOk_by (N := N_law) (sc := defScope s_law) (by decide +kernel)) (fun _ _ _ _ _ => pg_name (i := 20) sc_law.nd rfl (.inl rfl)) (fun _ _ _ _ _ => pts_nil) (fun _ _ _ _ _ => (pe_callS (ok_law_draw (base := base) T) (hr.mono (by decide)) (by rfl) T.g_law_draw T.F_law_draw.kp T.b_law_draw (fun σ => L2N.passAt takesN0 σ) (pa_cons (pv 1) (pa_cons pe_int (pa_cons pe_int pa_nil))))))
      (pss_cons (ps_set (i := 4) sc_law.nd rfl (.inl rfl) (pe_join pe_str (pe_lc (own := [("sort", 21)]) (g := gName 21) (by rfl) sc_law.nd (pi_list (pv 3)) (blkOk_by (N := N_law) (sc := defScope s_law) (by decide +kernel)) (fun _ _ _ _ _ => pg_name (i := 21) sc_law.nd rfl (.inl rfl)) (fun _ _ _ _ _ => pts_nil) (fun _ _ _ _ _ => (pe_ix ix_str (pv 2) (pv 21) (fun _ _ => rfl))))))
      (pss_cons (ps_set (i := 5) sc_law.nd rfl (.inl rfl) (pe_callS (ok_law_first (base := base) T) (hr.mono (by decide)) (by rfl) T.g_law_first T.F_law_first.kp T.b_law_first (fun σ => L2N.passAt (L2N.takes_of rfl rfl rfl rfl) σ) (pa_cons (pv 1) (pa_cons (pv 4) pa_nil))))
      (pss_cons (ps_set (i := 6) sc_law.nd rfl (.inl rfl) (pe_ix ix_list (pv 5) pe_int (fun _ _ => rfl)))
      (pss_cons (ps_set (i := 7) sc_law.nd rfl (.inl rfl) (pe_ix ix_list (pv 5) pe_int (fun _ _ => rfl)))
      (pss_cons (ps_set (i := 8) sc_law.nd rfl (.inl rfl) (pe_callS (ok_law_second (base := base) T) (hr.mono (by decide)) (by rfl) T.g_law_second T.F_law_second.kp T.b_law_second (fun σ => L2N.passAt (L2N.takes_of rfl rfl rfl rfl) σ) (pa_cons (pv 1) (pa_cons (pv 4) (pa_cons (pv 6) (pa_cons (pv 7) pa_nil))))))
      (pss_cons (ps_set (i := 9) sc_law.nd rfl (.inl rfl) (pe_callS (ok_law_list (base := base) T) (hr.mono (by decide)) (by rfl) T.g_law_list T.F_law_list.kp T.b_law_list (fun σ => L2N.passAt (L2N.takes_of rfl rfl rfl rfl) σ) (pa_cons (pv 1) (pa_cons (pv 4) (pa_cons (pv 6) pa_nil)))))
      (pss_cons (ps_set (i := 10) sc_law.nd rfl (.inl rfl) (pe_slice sl_str (pe_op op_rep_str (pe_op op_add_str (pv 6) (pe_ix ix_str (pv 4) pe_int (fun _ _ => rfl))) pe_int) po_none (po_some pe_int)))
      (pss_cons (ps_set (i := 11) sc_law.nd rfl (.inl rfl) (pe_lst (pa_cons (pe_ix ix_str (pv 4) pe_int (fun _ _ => rfl)) (pa_cons (pe_ix ix_str (pv 2) (pe_op op_mod (pe_callTy call_int1 (by rfl) T.z_int (by decide +kernel) (pa_cons (pe_op op_add (pe_ix ix_list (pv 3) pe_int (fun _ _ => rfl)) pe_int) pa_nil)) pe_int) (fun _ _ => rfl)) pa_nil))))
      (pss_cons (ps_set (i := 12) sc_law.nd rfl (.inl rfl) (pe_op op_cat (pe_lst (pa_cons (pv 7) (pa_cons (pv 8) (pa_cons (pv 10) (pa_cons pe_str pa_nil))))) (pv 11)))
      (pss_cons (ps_set (i := 12) sc_law.nd rfl (.inl rfl) (pe_op op_cat (pv 12) (pe_lst (pa_cons (pe_op op_rep_str (pe_ix ix_str (pv 4) pe_int (fun _ _ => rfl)) pe_int) (pa_cons (pv 7) pa_nil)))))
      (pss_cons (ps_for (passes_of rfl) rfl (pi_list (pv 12)) (pg_name (i := 13) sc_law.nd rfl (.inl rfl)) (pss_one (ps_if (pt_not (pt_val (pe_callS (ok_law_word_right (base := base) T) (hr.mono (by decide)) (by rfl) T.g_law_word_right T.F_law_word_right.kp T.b_law_word_right (fun σ => L2N.passAt (L2N.takes_of rfl rfl rfl rfl) σ) (pa_cons (pv 13) pa_nil)))) (pss_one (ps_ret pe_bl)) pss_nil)))
      (pss_cons (ps_for (passes_of rfl) rfl (pi_list (pv 12)) (pg_name (i := 14) sc_law.nd rfl (.inl rfl)) (pss_one (ps_if (PW.pt (pw_or (pt_not (pt_val (pe_callS (ok_law_pair_right (base := base) T) (hr.mono (by decide)) (by rfl) T.g_law_pair_right T.F_law_pair_right.kp T.b_law_pair_right (fun σ => L2N.passAt (L2N.takes_of rfl rfl rfl rfl) σ) (pa_cons (pv 7) (pa_cons (pv 14) pa_nil))))) (pw_or1 (pt_not (pt_val (pe_callS (ok_law_pair_right (base := base) T) (hr.mono (by decide)) (by rfl) T.g_law_pair_right T.F_law_pair_right.kp T.b_law_pair_right (fun σ => L2N.passAt (L2N.takes_of rfl rfl rfl rfl) σ) (pa_cons (pv 14) (pa_cons (pv 7) pa_nil)))))))) (pss_one (ps_ret pe_bl)) pss_nil)))
      (pss_cons (ps_for (passes_of rfl) rfl (pi_list (pe_lst (pa_cons (pv 9) (pa_cons (pe_lst pa_nil) (pa_cons (pv 11) (pa_cons (pe_lst (pa_cons pe_str (pa_cons (pv 7) (pa_cons pe_str pa_nil)))) (pa_cons (pv 9) pa_nil))))))) (pg_name (i := 15) sc_law.nd rfl (.inl rfl)) (pss_one (ps_if (pt_not (pt_val (pe_callS (ok_law_list_right (base := base) T) (hr.mono (by decide)) (by rfl) T.g_law_list_right T.F_law_list_right.kp T.b_law_list_right (fun σ => L2N.passAt (L2N.takes_of rfl rfl rfl rfl) σ) (pa_cons (pv 15) pa_nil)))) (pss_one (ps_ret pe_bl)) pss_nil)))
      (pss_cons (ps_if (PW.pt (pw_or (pt_not (pt_val (pe_callS (ok_law_list_right (base := base) T) (hr.mono (by decide)) (by rfl) T.g_law_list_right T.F_law_list_right.kp T.b_law_list_right (fun σ => L2N.passAt (L2N.takes_of rfl rfl rfl rfl) σ) (pa_cons (pe_op op_rep (pe_lst (pa_cons (pv 7) pa_nil)) pe_int) pa_nil)))) (pw_or1 (pt_not (pt_val (pe_callS (ok_law_list_right (base := base) T) (hr.mono (by decide)) (by rfl) T.g_law_list_right T.F_law_list_right.kp T.b_law_list_right (fun σ => L2N.passAt (L2N.takes_of rfl rfl rfl rfl) σ) (pa_cons (pe_op op_cat (pe_op op_rep (pe_lst (pa_cons pe_str pa_nil)) pe_int) (pe_lst (pa_cons (pv 10) pa_nil))) pa_nil))))))) (pss_one (ps_ret pe_bl)) pss_nil)
      (pss_cons (ps_if (pt_not (pt_val (pe_callS (ok_law_pair_right (base := base) T) (hr.mono (by decide)) (by rfl) T.g_law_pair_right T.F_law_pair_right.kp T.b_law_pair_right (fun σ => L2N.passAt (L2N.takes_of rfl rfl rfl rfl) σ) (pa_cons (pe_ix ix_list (pv 11) pe_int (fun _ _ => rfl)) (pa_cons (pe_ix ix_list (pv 11) pe_int (fun _ _ => rfl)) pa_nil))))) (pss_one (ps_ret pe_bl)) pss_nil)
      (pss_cons (ps_set (i := 16) sc_law.nd rfl (.inl rfl) (pe_callS (ok_law_odd (base := base) T) (hr.mono (by decide)) (by rfl) T.g_law_odd T.F_law_odd.kp T.b_law_odd (fun σ => L2N.passAt (L2N.takes_of rfl rfl rfl rfl) σ) (pa_cons (pv 1) (pa_cons (pv 7) pa_nil))))
      (pss_cons (ps_set (i := 17) sc_law.nd rfl (.inl rfl) (pe_op op_add_str (pv 10) (pe_ix ix_str (pv 4) pe_int (fun _ _ => rfl))))
      (pss_cons (ps_set (i := 18) sc_law.nd rfl (.inl rfl) (pe_callS (ok_law_draw (base := base) T) (hr.mono (by decide)) (by rfl) T.g_law_draw T.F_law_draw.kp T.b_law_draw (fun σ => L2N.passAt (L2N.takes_of rfl rfl rfl rfl) σ) (pa_cons (pv 1) (pa_cons pe_int (pa_cons (pe_callB (call_max2 rfl) (by rfl) T.z_max (by decide +kernel) (pa_cons pe_int (pa_cons (pe_callB call_len_seq (by rfl) T.z_len PySem.boot_len (pa_cons (pv 9) pa_nil)) pa_nil))) pa_nil)))))
      (pss_cons (ps_for (passes_of rfl) rfl (pi_list (pe_lst (pa_cons (pv 16) (pa_cons (pv 17) pa_nil)))) (pg_name (i := 19) sc_law.nd rfl (.inl rfl)) (pss_one (ps_if (pt_not (pt_val (pe_callS (ok_law_refuses (base := base) T) (hr.mono (by decide)) (by rfl) T.g_law_refuses T.F_law_refuses.kp T.b_law_refuses (fun σ => L2N.passAt (L2N.takes_of rfl rfl rfl rfl) σ) (pa_cons (pv 9) (pa_cons (pv 18) (pa_cons (pv 7) (pa_cons (pv 19) pa_nil))))))) (pss_one (ps_ret pe_bl)) pss_nil)))
      (pss_one (ps_ret (pe_callS (ok_law_refuses_first (base := base) T) (hr.mono (by decide)) (by rfl) T.g_law_refuses_first T.F_law_refuses_first.kp T.b_law_refuses_first (fun σ => L2N.passAt (L2N.takes_of rfl rfl rfl rfl) σ) (pa_cons (pv 7) (pa_cons (pv 16) (pa_cons (pv 17) pa_nil)))))))))))))))))))))))))))), ?_⟩
  generalize start N_law vs = σ at hE ⊢
  change wp (m_law script) _ _ at h
  unfold m_law at h
  refine uSeq (uAsg (uCallS (uCons (uSl ?_))))
  refine st_var hE (i := 0) rfl fun v hE => ?_
  refine st_bdp hE ho_none ?_
  refine st_bdp hE (ho_p (hf_c (a := (63 : Int)) rfl trivial)) ?_
  refine st_slScr hE fun I H v hE => ?_
  refine uNil ?_
  refine st_call (cutL script.l none (some (63 : Int))) hE rfl rfl h (fun e x I' H' cls d hm z => x _ H' cls d hm z.clear) fun t1 I H v hE h => ?_
  refine st_store (Γ' := [.im (script : Scr), .own (t1 : (List Int)), .any, .any, .any, .any, .any, .any, .any, .any, .any, .any, .any, .any, .any, .any, .any, .any, .any, .any, .any, .any]) hE rfl (by decide : (1 : Nat) < 22) fun σ hE => ?_
  refine uSeq ?_
  refine st_setm (Γ' := fun (letters : Tx) => [.im (script : Scr), .own (t1 : (List Int)), .im (letters : Tx), .any, .any, .any, .any, .any, .any, .any, .any, .any, .any, .any, .any, .any, .any, .any, .any, .any, .any, .any]) hE (hf_c (a := ([97, 98, 99, 100, 101, 102, 103, 104, 105, 106, 107, 108, 109, 110, 111, 112, 113, 114, 115, 116, 117, 118, 119, 120, 121, 122] : Tx)) (by decide +kernel) (by decide : (26 : Nat) ≤ line)) h (fun _ => rfl) (by decide : (2 : Nat) < 22) fun letters σ hE h => ?_
  refine uSeq (uAsg (uLc (uRng1 (uCons (uOp ?_)))))
  refine st_push hE (hf_c (a := (1 : Int)) rfl trivial) fun hE => ?_
  refine uCallS (uCons ?_)
  refine st_varO (i := 1) hE rfl fun va h0_2 => ?_
  refine uCons ?_
  refine st_push hE (hf_c (a := (0 : Int)) rfl trivial) fun hE => ?_
  refine uCons ?_
  refine st_push hE (hf_c (a := (3 : Int)) rfl trivial) fun hE => ?_
  refine uNil ?_
  refine st_callO (i := 1) ((0 : Int), (3 : Int)) rfl h0_2 hE rfl rfl h (fun e x I' H' cls d hm z => x _ H' cls d hm z.clear.nip) fun t4 I H v hE h => ?_
  refine st_op2 hE hr_add h fun t5 v hE h => ?_
  refine uNil ?_
  refine it_rng1S hE h fun xs2 h hE J hJ => ?_
  refine st_lcs (α := Int) (β := Int) (S := (List Int)) (i := 20) (fun (z : (List Int)) => [.im (script : Scr), .own (z : (List Int)), .im (letters : Tx), .any, .any, .any, .any, .any, .any, .any, .any, .any, .any, .any, .any, .any, .any, .any, .any, .any, .any, .any]) hJ hE (fun _ => rfl) h (fun ysl ysr I H v hE h => ?_) (fun k_ s6 I H σ ρ' Θ' Qe hE h => ?_)
  rotate_left 1
  ·
    replace hE : Env K _ _ _ [.im (script : Scr), .own (s6 : (List Int)), .im (letters : Tx), .any, .any, .any, .any, .any, .any, .any, .any, .any, .any, .any, .any, .any, .any, .any, .any, .any, .im (k_ : Int), .any] _ _ := hE
    refine uCallS (uCons ?_)
    refine st_varO (i := 1) hE rfl fun va h0_6 => ?_
    refine uCons ?_
    refine st_push hE (hf_c (a := (0 : Int)) rfl trivial) fun hE => ?_
    refine uCons ?_
    refine st_push hE (hf_c (a := (26 : Int)) rfl trivial) fun hE => ?_
    refine uNil ?_
    refine st_callOX (i := 1) ((0 : Int), (26 : Int)) rfl h0_6 hE rfl rfl h  fun t8 I H v hE h => ?_
    exact h _ _ _ hE
  obtain ⟨ys9, eys9⟩ : ∃ y : List Int × (List Int), y = (ysl, ysr) := ⟨_, rfl⟩
  rw [← eys9] at h
  have elys9 : ysl = ys9.1 := by rw [eys9]
  have erys9 : ysr = ys9.2 := by rw [eys9]
  subst elys9 erys9
  replace hE : Env K _ _ _ [.im (script : Scr), .own (ys9.2 : (List Int)), .im (letters : Tx), .any, .any, .any, .any, .any, .any, .any, .any, .any, .any, .any, .any, .any, .any, .any, .any, .any, .any, .any] _ _ := hE
  refine st_freezeT hE fun I hE => ?_
  refine st_store (Γ' := [.im (script : Scr), .own (ys9.2 : (List Int)), .im (letters : Tx), .im (ys9.1 : (List Int)), .any, .any, .any, .any, .any, .any, .any, .any, .any, .any, .any, .any, .any, .any, .any, .any, .any, .any]) hE rfl (by decide : (3 : Nat) < 22) fun σ hE => ?_
  refine uSeq (uAsg (uJoin ?_))
  refine st_push hE (hf_c (a := ([] : Tx)) (by decide +kernel) (by decide : (0 : Nat) ≤ line)) fun hE => ?_
  refine ⟨st_joinA hE, ?_⟩
  refine uLc (uList ?_)
  refine st_var hE (i := 3) rfl fun v hE => ?_
  refine it_list hE fun ja hJ => ?_
  refine st_lcm (α := Int) (β := Tx) (i := 21) hJ hE rfl h (fun ys11 I H v hE h => ?_) (fun sort I H σ ρ' Θ' Qe hE h => ?_)
  rotate_left 1
  ·
    refine st_pushm hE (hf_pp hr_getT (hf_var rfl) (hf_var rfl)) h fun t10 hE h => ?_
    exact h _ _ _ hE
  refine st_freezeT hE fun I hE => ?_
  refine st_join hE h fun t12 v hE h => ?_
  refine st_store (Γ' := [.im (script : Scr), .own (ys9.2 : (List Int)), .im (letters : Tx), .im (ys9.1 : (List Int)), .im (t12 : Tx), .any, .any, .any, .any, .any, .any, .any, .any, .any, .any, .any, .any, .any, .any, .any, .any, .any]) hE rfl (by decide : (4 : Nat) < 22) fun σ hE => ?_
  refine uSeq (uAsg (uCallS (uCons ?_)))
  refine st_varO (i := 1) hE rfl fun va h0_12 => ?_
  refine uCons ?_
  refine st_push hE (hf_var rfl) fun hE => ?_
  refine uNil ?_
  refine st_callO (i := 1) t12 rfl h0_12 hE rfl rfl h (fun e x I' H' cls d hm z => x _ H' cls d hm z.clear) fun t14 I H v hE h => ?_
  refine st_store (Γ' := [.im (script : Scr), .own (t14.2 : (List Int)), .im (letters : Tx), .im (ys9.1 : (List Int)), .im (t12 : Tx), .im (t14.1 : (List Tx)), .any, .any, .any, .any, .any, .any, .any, .any, .any, .any, .any, .any, .any, .any, .any, .any]) hE rfl (by decide : (5 : Nat) < 22) fun σ hE => ?_
  refine uSeq ?_
  refine st_setm (Γ' := fun (base_ : Tx) => [.im (script : Scr), .own (t14.2 : (List Int)), .im (letters : Tx), .im (ys9.1 : (List Int)), .im (t12 : Tx), .im (t14.1 : (List Tx)), .im (base_ : Tx), .any, .any, .any, .any, .any, .any, .any, .any, .any, .any, .any, .any, .any, .any, .any]) hE (hf_ixLp rfl (hf_c (a := (0 : Int)) rfl trivial)) h (fun _ => rfl) (by decide : (6 : Nat) < 22) fun base_ σ hE h => ?_
  refine uSeq ?_
  refine st_setm (Γ' := fun (word : Tx) => [.im (script : Scr), .own (t14.2 : (List Int)), .im (letters : Tx), .im (ys9.1 : (List Int)), .im (t12 : Tx), .im (t14.1 : (List Tx)), .im (base_ : Tx), .im (word : Tx), .any, .any, .any, .any, .any, .any, .any, .any, .any, .any, .any, .any, .any, .any]) hE (hf_ixLp rfl (hf_c (a := (1 : Int)) rfl trivial)) h (fun _ => rfl) (by decide : (7 : Nat) < 22) fun word σ hE h => ?_
  refine uSeq (uAsg (uCallS (uCons ?_)))
  refine st_varO (i := 1) hE rfl fun va h0_14 => ?_
  refine uCons ?_
  refine st_push hE (hf_var rfl) fun hE => ?_
  refine uCons ?_
  refine st_push hE (hf_var rfl) fun hE => ?_
  refine uCons ?_
  refine st_push hE (hf_var rfl) fun hE => ?_
  refine uNil ?_
  refine st_callO (i := 1) (t12, base_, word) rfl h0_14 hE rfl rfl h (fun e x I' H' cls d hm z => x _ H' cls d hm z.clear) fun t16 I H v hE h => ?_
  refine st_store (Γ' := [.im (script : Scr), .own (t16.2 : (List Int)), .im (letters : Tx), .im (ys9.1 : (List Int)), .im (t12 : Tx), .im (t14.1 : (List Tx)), .im (base_ : Tx), .im (word : Tx), .im (t16.1 : Tx), .any, .any, .any, .any, .any, .any, .any, .any, .any, .any, .any, .any, .any]) hE rfl (by decide : (8 : Nat) < 22) fun σ hE => ?_
  refine uSeq (uAsg (uCallS (uCons ?_)))
  refine st_varO (i := 1) hE rfl fun va h0_16 => ?_
  refine uCons ?_
  refine st_push hE (hf_var rfl) fun hE => ?_
  refine uCons ?_
  refine st_push hE (hf_var rfl) fun hE => ?_
  refine uNil ?_
  refine st_callO (i := 1) (t12, base_) rfl h0_16 hE rfl rfl h (fun e x I' H' cls d hm z => x _ H' cls d hm z.clear) fun t18 I H v hE h => ?_
  refine st_store (Γ' := [.im (script : Scr), .own (t18.2 : (List Int)), .im (letters : Tx), .im (ys9.1 : (List Int)), .im (t12 : Tx), .im (t14.1 : (List Tx)), .im (base_ : Tx), .im (word : Tx), .im (t16.1 : Tx), .im (t18.1 : (List Tx)), .any, .any, .any, .any, .any, .any, .any, .any, .any, .any, .any, .any]) hE rfl (by decide : (9 : Nat) < 22) fun σ hE => ?_
  refine uSeq ?_
  refine st_setm (Γ' := fun (full : Tx) => [.im (script : Scr), .own (t18.2 : (List Int)), .im (letters : Tx), .im (ys9.1 : (List Int)), .im (t12 : Tx), .im (t14.1 : (List Tx)), .im (base_ : Tx), .im (word : Tx), .im (t16.1 : Tx), .im (t18.1 : (List Tx)), .im (full : Tx), .any, .any, .any, .any, .any, .any, .any, .any, .any, .any, .any]) hE (hf_cut_m (hf_mp (fun _ => hr_repT) (hf_pm (fun _ => hr_catT) (hf_var rfl) (hf_pp hr_getT (hf_var rfl) (hf_c (a := (0 : Int)) rfl trivial))) (hf_c (a := (60 : Int)) rfl trivial)) ho_none (ho_p (hf_c (a := (60 : Int)) rfl trivial))) h (fun _ => rfl) (by decide : (10 : Nat) < 22) fun full σ hE h => ?_
  refine uSeq (uAsg (uLst (uCons ?_)))
  refine st_pushm hE (hf_pp hr_getT (hf_var rfl) (hf_c (a := (0 : Int)) rfl trivial)) h fun t24 hE h => ?_
  refine uCons ?_
  refine st_pushm hE (hf_pm (fun _ => hr_getT) (hf_var rfl) (hf_mp (fun _ => hr_mod) (hf_c1m (fun _ => hc_int) (hf_mp (fun _ => hr_add) (hf_ixLp rfl (hf_c (a := (0 : Int)) rfl trivial)) (hf_c (a := (1 : Int)) rfl trivial))) (hf_c (a := (26 : Int)) rfl trivial))) h fun t29 hE h => ?_
  refine uNil ?_
  refine st_lstI (α := Tx) _ [t24, t29] rfl (by decide : (2 : Nat) ≤ line) hE fun I H v hE => ?_
  refine st_name hE h fun unlike hE h => ?_
  refine st_store (Γ' := [.im (script : Scr), .own (t18.2 : (List Int)), .im (letters : Tx), .im (ys9.1 : (List Int)), .im (t12 : Tx), .im (t14.1 : (List Tx)), .im (base_ : Tx), .im (word : Tx), .im (t16.1 : Tx), .im (t18.1 : (List Tx)), .im (full : Tx), .im (unlike : (List Tx)), .any, .any, .any, .any, .any, .any, .any, .any, .any, .any]) hE rfl (by decide : (11 : Nat) < 22) fun σ hE => ?_
  refine uSeq (uAsg (uOp (uLst (uCons ?_))))
  refine st_push hE (hf_var rfl) fun hE => ?_
  refine uCons ?_
  refine st_push hE (hf_var rfl) fun hE => ?_
  refine uCons ?_
  refine st_push hE (hf_var rfl) fun hE => ?_
  refine uCons ?_
  refine st_push hE (hf_c (a := ([] : Tx)) (by decide +kernel) (by decide : (0 : Nat) ≤ line)) fun hE => ?_
  refine uNil ?_
  refine st_lstI (α := Tx) _ [word, t16.1, full, ([] : Tx)] rfl (by decide : (4 : Nat) ≤ line) hE fun I H v hE => ?_
  refine st_var hE (i := 11) rfl fun v hE => ?_
  refine st_catI hE h fun t30 I H v hE h => ?_
  refine st_store (Γ' := [.im (script : Scr), .own (t18.2 : (List Int)), .im (letters : Tx), .im (ys9.1 : (List Int)), .im (t12 : Tx), .im (t14.1 : (List Tx)), .im (base_ : Tx), .im (word : Tx), .im (t16.1 : Tx), .im (t18.1 : (List Tx)), .im (full : Tx), .im (unlike : (List Tx)), .im (t30 : (List Tx)), .any, .any, .any, .any, .any, .any, .any, .any, .any]) hE rfl (by decide : (12 : Nat) < 22) fun σ hE => ?_
  refine uSeq (uAsg (uOp ?_))
  refine st_var hE (i := 12) rfl fun v hE => ?_
  refine uLst (uCons ?_)
  refine st_pushm hE (hf_mp (fun _ => hr_repT) (hf_pp hr_getT (hf_var rfl) (hf_c (a := (0 : Int)) rfl trivial)) (hf_c (a := (2 : Int)) rfl trivial)) h fun t32 hE h => ?_
  refine uCons ?_
  refine st_push hE (hf_var rfl) fun hE => ?_
  refine uNil ?_
  refine st_lstI (α := Tx) _ [t32, word] rfl (by decide : (2 : Nat) ≤ line) hE fun I H v hE => ?_
  refine st_catI hE h fun t33 I H v hE h => ?_
  refine st_store (Γ' := [.im (script : Scr), .own (t18.2 : (List Int)), .im (letters : Tx), .im (ys9.1 : (List Int)), .im (t12 : Tx), .im (t14.1 : (List Tx)), .im (base_ : Tx), .im (word : Tx), .im (t16.1 : Tx), .im (t18.1 : (List Tx)), .im (full : Tx), .im (unlike : (List Tx)), .im (t33 : (List Tx)), .any, .any, .any, .any, .any, .any, .any, .any, .any]) hE rfl (by decide : (12 : Nat) < 22) fun σ hE => ?_
  refine uSeq (uFor (uList ?_))
  refine st_var hE (i := 12) rfl fun v hE => ?_
  refine it_list hE fun ja hJ => ?_
  refine st_for (α := Tx) hJ (RetP K ρ Θ (fun b => .im b) Q) (fun (_ : Unit) => [.im (script : Scr), .own (t18.2 : (List Int)), .im (letters : Tx), .im (ys9.1 : (List Int)), .im (t12 : Tx), .im (t14.1 : (List Tx)), .im (base_ : Tx), .im (word : Tx), .im (t16.1 : Tx), .im (t18.1 : (List Tx)), .im (full : Tx), .im (unlike : (List Tx)), .im (t33 : (List Tx)), .any, .any, .any, .any, .any, .any, .any, .any, .any]) hE ⟨.inr rfl, .inr rfl, .inr rfl, .inr rfl, .inr rfl, .inr rfl, .inr rfl, .inr rfl, .inr rfl, .inr rfl, .inr rfl, .inr rfl, .inr rfl, .inl rfl, .inl rfl, .inl rfl, .inl rfl, .inl rfl, .inl rfl, .inl rfl, .inl rfl, .inl rfl, trivial⟩ h (fun r h => h) (fun one s I H σ v N B hE h => ?_) (fun s I H σ hE h => ?_)
  ·
    refine st_store (Γ' := [.im (script : Scr), .own (t18.2 : (List Int)), .im (letters : Tx), .im (ys9.1 : (List Int)), .im (t12 : Tx), .im (t14.1 : (List Tx)), .im (base_ : Tx), .im (word : Tx), .im (t16.1 : Tx), .im (t18.1 : (List Tx)), .im (full : Tx), .im (unlike : (List Tx)), .im (t33 : (List Tx)), .im (one : Tx), .any, .any, .any, .any, .any, .any, .any, .any]) hE rfl (by decide : (13 : Nat) < 22) fun σ hE => ?_
    refine uIf (uNot (uB (uCallS (uCons ?_))))
    refine st_push hE (hf_var rfl) fun hE => ?_
    refine uNil ?_
    refine st_call one hE rfl rfl h (fun e x I' H' cls d hm z => x _ H' cls d hm z.clear.nip) fun t34 I H v hE h => ?_
    refine st_vb hE fun hE => ?_
    refine st_ite h (fun h => ?_) (fun h => ?_)
    ·
      exact st_ret hE.pop (hf_c (a := false) rfl trivial) h
    ·
      refine uNext ?_
      exact h _ _ _ (hE.weak (Γ' := [.im (script : Scr), .own (t18.2 : (List Int)), .im (letters : Tx), .im (ys9.1 : (List Int)), .im (t12 : Tx), .im (t14.1 : (List Tx)), .im (base_ : Tx), .im (word : Tx), .im (t16.1 : Tx), .im (t18.1 : (List Tx)), .im (full : Tx), .im (unlike : (List Tx)), .im (t33 : (List Tx)), .any, .any, .any, .any, .any, .any, .any, .any, .any]) ⟨.inr rfl, .inr rfl, .inr rfl, .inr rfl, .inr rfl, .inr rfl, .inr rfl, .inr rfl, .inr rfl, .inr rfl, .inr rfl, .inr rfl, .inr rfl, .inl rfl, .inl rfl, .inl rfl, .inl rfl, .inl rfl, .inl rfl, .inl rfl, .inl rfl, .inl rfl, trivial⟩)
  refine uSeq (uFor (uList ?_))
  refine st_var hE (i := 12) rfl fun v hE => ?_
  refine it_list hE fun ja hJ => ?_
  refine st_for (α := Tx) hJ (RetP K ρ Θ (fun b => .im b) Q) (fun (_ : Unit) => [.im (script : Scr), .own (t18.2 : (List Int)), .im (letters : Tx), .im (ys9.1 : (List Int)), .im (t12 : Tx), .im (t14.1 : (List Tx)), .im (base_ : Tx), .im (word : Tx), .im (t16.1 : Tx), .im (t18.1 : (List Tx)), .im (full : Tx), .im (unlike : (List Tx)), .im (t33 : (List Tx)), .any, .any, .any, .any, .any, .any, .any, .any, .any]) hE ⟨.inr rfl, .inr rfl, .inr rfl, .inr rfl, .inr rfl, .inr rfl, .inr rfl, .inr rfl, .inr rfl, .inr rfl, .inr rfl, .inr rfl, .inr rfl, .inl rfl, .inl rfl, .inl rfl, .inl rfl, .inl rfl, .inl rfl, .inl rfl, .inl rfl, .inl rfl, trivial⟩ h (fun r h => h) (fun other s I H σ v N B hE h => ?_) (fun s I H σ hE h => ?_)
  ·
    refine st_store (Γ' := [.im (script : Scr), .own (t18.2 : (List Int)), .im (letters : Tx), .im (ys9.1 : (List Int)), .im (t12 : Tx), .im (t14.1 : (List Tx)), .im (base_ : Tx), .im (word : Tx), .im (t16.1 : Tx), .im (t18.1 : (List Tx)), .im (full : Tx), .im (unlike : (List Tx)), .im (t33 : (List Tx)), .any, .im (other : Tx), .any, .any, .any, .any, .any, .any, .any]) hE rfl (by decide : (14 : Nat) < 22) fun σ hE => ?_
    refine uIf ?_
    refine st_tj hE (fun (s : Unit) => [.im (script : Scr), .own (t18.2 : (List Int)), .im (letters : Tx), .im (ys9.1 : (List Int)), .im (t12 : Tx), .im (t14.1 : (List Tx)), .im (base_ : Tx), .im (word : Tx), .im (t16.1 : Tx), .im (t18.1 : (List Tx)), .im (full : Tx), .im (unlike : (List Tx)), .im (t33 : (List Tx)), .any, .im (other : Tx), .any, .any, .any, .any, .any, .any, .any]) h (fun h => ?_) (fun b38 s I H hE h => ?_)
    ·
      refine uOr (uNot (uB (uCallS (uCons ?_))))
      refine st_push hE (hf_var rfl) fun hE => ?_
      refine uCons ?_
      refine st_push hE (hf_var rfl) fun hE => ?_
      refine uNil ?_
      refine st_call (word, other) hE rfl rfl h (fun e x I' H' cls d hm z => x _ H' cls d hm z.clear.nip) fun t36 I H v hE h => ?_
      refine st_vb hE fun hE => ?_
      refine st_ite h (fun h => ?_) (fun h => ?_)
      ·
        exact h _ _ hE
      ·
        refine uNot (uB (uCallS (uCons ?_)))
        refine st_push hE (hf_var rfl) fun hE => ?_
        refine uCons ?_
        refine st_push hE (hf_var rfl) fun hE => ?_
        refine uNil ?_
        refine st_call (other, word) hE rfl rfl h (fun e x I' H' cls d hm z => x _ H' cls d hm z.clear.nip) fun t37 I H v hE h => ?_
        refine st_vb hE fun hE => ?_
        exact h _ _ hE
    refine st_ite h (fun h => ?_) (fun h => ?_)
    ·
      exact st_ret hE.pop (hf_c (a := false) rfl trivial) h
    ·
      refine uNext ?_
      exact h _ _ _ (hE.weak (Γ' := [.im (script : Scr), .own (t18.2 : (List Int)), .im (letters : Tx), .im (ys9.1 : (List Int)), .im (t12 : Tx), .im (t14.1 : (List Tx)), .im (base_ : Tx), .im (word : Tx), .im (t16.1 : Tx), .im (t18.1 : (List Tx)), .im (full : Tx), .im (unlike : (List Tx)), .im (t33 : (List Tx)), .any, .any, .any, .any, .any, .any, .any, .any, .any]) ⟨.inr rfl, .inr rfl, .inr rfl, .inr rfl, .inr rfl, .inr rfl, .inr rfl, .inr rfl, .inr rfl, .inr rfl, .inr rfl, .inr rfl, .inr rfl, .inl rfl, .inl rfl, .inl rfl, .inl rfl, .inl rfl, .inl rfl, .inl rfl, .inl rfl, .inl rfl, trivial⟩)
  refine uSeq (uFor (uList (uLst (uCons ?_))))
  refine st_var hE (i := 9) rfl fun v hE => ?_
  refine uCons (uLst (uNil ?_))
  refine st_lstI (α := Tx) [] [] rfl (Nat.zero_le _) hE fun I H v hE => ?_
  refine uCons ?_
  refine st_var hE (i := 11) rfl fun v hE => ?_
  refine uCons (uLst (uCons ?_))
  refine st_push hE (hf_c (a := ([] : Tx)) (by decide +kernel) (by decide : (0 : Nat) ≤ line)) fun hE => ?_
  refine uCons ?_
  refine st_push hE (hf_var rfl) fun hE => ?_
  refine uCons ?_
  refine st_push hE (hf_c (a := ([] : Tx)) (by decide +kernel) (by decide : (0 : Nat) ≤ line)) fun hE => ?_
  refine uNil ?_
  refine st_lstI (α := Tx) _ [([] : Tx), word, ([] : Tx)] rfl (by decide : (3 : Nat) ≤ line) hE fun I H v hE => ?_
  refine uCons ?_
  refine st_var hE (i := 9) rfl fun v hE => ?_
  refine uNil ?_
  refine st_lstI (α := (List Tx)) _ [t18.1, ([] : List Tx), unlike, [([] : Tx), word, ([] : Tx)], t18.1] rfl (by decide : (5 : Nat) ≤ line) hE fun I H v hE => ?_
  refine it_list hE fun ja hJ => ?_
  refine st_for (α := (List Tx)) hJ (RetP K ρ Θ (fun b => .im b) Q) (fun (_ : Unit) => [.im (script : Scr), .own (t18.2 : (List Int)), .im (letters : Tx), .im (ys9.1 : (List Int)), .im (t12 : Tx), .im (t14.1 : (List Tx)), .im (base_ : Tx), .im (word : Tx), .im (t16.1 : Tx), .im (t18.1 : (List Tx)), .im (full : Tx), .im (unlike : (List Tx)), .im (t33 : (List Tx)), .any, .any, .any, .any, .any, .any, .any, .any, .any]) hE ⟨.inr rfl, .inr rfl, .inr rfl, .inr rfl, .inr rfl, .inr rfl, .inr rfl, .inr rfl, .inr rfl, .inr rfl, .inr rfl, .inr rfl, .inr rfl, .inl rfl, .inl rfl, .inl rfl, .inl rfl, .inl rfl, .inl rfl, .inl rfl, .inl rfl, .inl rfl, trivial⟩ h (fun r h => h) (fun row s I H σ v N B hE h => ?_) (fun s I H σ hE h => ?_)
  ·
    refine st_store (Γ' := [.im (script : Scr), .own (t18.2 : (List Int)), .im (letters : Tx), .im (ys9.1 : (List Int)), .im (t12 : Tx), .im (t14.1 : (List Tx)), .im (base_ : Tx), .im (word : Tx), .im (t16.1 : Tx), .im (t18.1 : (List Tx)), .im (full : Tx), .im (unlike : (List Tx)), .im (t33 : (List Tx)), .any, .any, .im (row : (List Tx)), .any, .any, .any, .any, .any, .any]) hE rfl (by decide : (15 : Nat) < 22) fun σ hE => ?_
    refine uIf (uNot (uB (uCallS (uCons ?_))))
    refine st_var hE (i := 15) rfl fun v hE => ?_
    refine uNil ?_
    refine st_call row hE rfl rfl h (fun e x I' H' cls d hm z => x _ H' cls d hm z.clear.nip) fun t40 I H v hE h => ?_
    refine st_vb hE fun hE => ?_
    refine st_ite h (fun h => ?_) (fun h => ?_)
    ·
      exact st_ret hE.pop (hf_c (a := false) rfl trivial) h
    ·
      refine uNext ?_
      exact h _ _ _ (hE.weak (Γ' := [.im (script : Scr), .own (t18.2 : (List Int)), .im (letters : Tx), .im (ys9.1 : (List Int)), .im (t12 : Tx), .im (t14.1 : (List Tx)), .im (base_ : Tx), .im (word : Tx), .im (t16.1 : Tx), .im (t18.1 : (List Tx)), .im (full : Tx), .im (unlike : (List Tx)), .im (t33 : (List Tx)), .any, .any, .any, .any, .any, .any, .any, .any, .any]) ⟨.inr rfl, .inr rfl, .inr rfl, .inr rfl, .inr rfl, .inr rfl, .inr rfl, .inr rfl, .inr rfl, .inr rfl, .inr rfl, .inr rfl, .inr rfl, .inl rfl, .inl rfl, .inl rfl, .inl rfl, .inl rfl, .inl rfl, .inl rfl, .inl rfl, .inl rfl, trivial⟩)
  refine uSeq (uIf ?_)
  refine st_tj hE (fun (s : Unit) => [.im (script : Scr), .own (t18.2 : (List Int)), .im (letters : Tx), .im (ys9.1 : (List Int)), .im (t12 : Tx), .im (t14.1 : (List Tx)), .im (base_ : Tx), .im (word : Tx), .im (t16.1 : Tx), .im (t18.1 : (List Tx)), .im (full : Tx), .im (unlike : (List Tx)), .im (t33 : (List Tx)), .any, .any, .any, .any, .any, .any, .any, .any, .any]) h (fun h => ?_) (fun b47 s I H hE h => ?_)
  ·
    refine uOr (uNot (uB (uCallS (uCons (uOp (uLst (uCons ?_)))))))
    refine st_push hE (hf_var rfl) fun hE => ?_
    refine uNil ?_
    refine st_lstI (α := Tx) _ [word] rfl (by decide : (1 : Nat) ≤ line) hE fun I H v hE => ?_
    refine st_push hE (hf_c (a := (20 : Int)) rfl trivial) fun hE => ?_
    refine st_repI hE h fun t42 I H v hE h => ?_
    refine uNil ?_
    refine st_call t42 hE rfl rfl h (fun e x I' H' cls d hm z => x _ H' cls d hm z.clear) fun t43 I H v hE h => ?_
    refine st_vb hE fun hE => ?_
    refine st_ite h (fun h => ?_) (fun h => ?_)
    ·
      exact h _ _ hE
    ·
      refine uNot (uB (uCallS (uCons (uOp (uOp (uLst (uCons ?_)))))))
      refine st_push hE (hf_c (a := ([] : Tx)) (by decide +kernel) (by decide : (0 : Nat) ≤ line)) fun hE => ?_
      refine uNil ?_
      refine st_lstI (α := Tx) _ [([] : Tx)] rfl (by decide : (1 : Nat) ≤ line) hE fun I H v hE => ?_
      refine st_push hE (hf_c (a := (19 : Int)) rfl trivial) fun hE => ?_
      refine st_repI hE h fun t44 I H v hE h => ?_
      refine uLst (uCons ?_)
      refine st_push hE (hf_var rfl) fun hE => ?_
      refine uNil ?_
      refine st_lstI (α := Tx) _ [full] rfl (by decide : (1 : Nat) ≤ line) hE fun I H v hE => ?_
      refine st_catI hE h fun t45 I H v hE h => ?_
      refine uNil ?_
      refine st_call t45 hE rfl rfl h (fun e x I' H' cls d hm z => x _ H' cls d hm z.clear) fun t46 I H v hE h => ?_
      refine st_vb hE fun hE => ?_
      exact h _ _ hE
  refine st_ite h (fun h => ?_) (fun h => ?_)
  ·
    exact st_ret hE (hf_c (a := false) rfl trivial) h
  ·
    refine uNext (uSeq (uIf (uNot (uB (uCallS (uCons ?_))))))
    refine st_pushm hE (hf_ixLp rfl (hf_c (a := (0 : Int)) rfl trivial)) h fun t48 hE h => ?_
    refine uCons ?_
    refine st_pushm hE (hf_ixLp rfl (hf_c (a := (1 : Int)) rfl trivial)) h fun t49 hE h => ?_
    refine uNil ?_
    refine st_call (t48, t49) hE rfl rfl h (fun e x I' H' cls d hm z => x _ H' cls d hm z.clear) fun t50 I H v hE h => ?_
    refine st_vb hE fun hE => ?_
    refine st_ite h (fun h => ?_) (fun h => ?_)
    ·
      exact st_ret hE (hf_c (a := false) rfl trivial) h
    ·
      refine uNext (uSeq (uAsg (uCallS (uCons ?_))))
      refine st_varO (i := 1) hE rfl fun va h0_50 => ?_
      refine uCons ?_
      refine st_push hE (hf_var rfl) fun hE => ?_
      refine uNil ?_
      refine st_callO (i := 1) word rfl h0_50 hE rfl rfl h (fun e x I' H' cls d hm z => x _ H' cls d hm z.clear) fun t52 I H v hE h => ?_
      refine st_store (Γ' := [.im (script : Scr), .own (t52.2 : (List Int)), .im (letters : Tx), .im (ys9.1 : (List Int)), .im (t12 : Tx), .im (t14.1 : (List Tx)), .im (base_ : Tx), .im (word : Tx), .im (t16.1 : Tx), .im (t18.1 : (List Tx)), .im (full : Tx), .im (unlike : (List Tx)), .im (t33 : (List Tx)), .any, .any, .any, .im (t52.1 : Tx), .any, .any, .any, .any, .any]) hE rfl (by decide : (16 : Nat) < 22) fun σ hE => ?_
      refine uSeq ?_
      refine st_setm (Γ' := fun (much : Tx) => [.im (script : Scr), .own (t52.2 : (List Int)), .im (letters : Tx), .im (ys9.1 : (List Int)), .im (t12 : Tx), .im (t14.1 : (List Tx)), .im (base_ : Tx), .im (word : Tx), .im (t16.1 : Tx), .im (t18.1 : (List Tx)), .im (full : Tx), .im (unlike : (List Tx)), .im (t33 : (List Tx)), .any, .any, .any, .im (t52.1 : Tx), .im (much : Tx), .any, .any, .any, .any]) hE (hf_pm (fun _ => hr_catT) (hf_var rfl) (hf_pp hr_getT (hf_var rfl) (hf_c (a := (0 : Int)) rfl trivial))) h (fun _ => rfl) (by decide : (17 : Nat) < 22) fun much σ hE h => ?_
      refine uSeq (uAsg (uCallS (uCons ?_)))
      refine st_varO (i := 1) hE rfl fun va h0_53 => ?_
      refine uCons ?_
      refine st_push hE (hf_c (a := (9 : Int)) rfl trivial) fun hE => ?_
      refine uCons ?_
      refine st_push hE (hf_c2p hc_max (hf_c (a := (1 : Int)) rfl trivial) (hf_lenL (hΓ := rfl))) fun hE => ?_
      refine uNil ?_
      refine st_callO (i := 1) ((9 : Int), (max (1 : Int) ((t18.1.length : Nat) : Int))) rfl h0_53 hE rfl rfl h (fun e x I' H' cls d hm z => x _ H' cls d hm z.clear) fun t55 I H v hE h => ?_
      refine st_store (Γ' := [.im (script : Scr), .own (t55.2 : (List Int)), .im (letters : Tx), .im (ys9.1 : (List Int)), .im (t12 : Tx), .im (t14.1 : (List Tx)), .im (base_ : Tx), .im (word : Tx), .im (t16.1 : Tx), .im (t18.1 : (List Tx)), .im (full : Tx), .im (unlike : (List Tx)), .im (t33 : (List Tx)), .any, .any, .any, .im (t52.1 : Tx), .im (much : Tx), .im (t55.1 : Int), .any, .any, .any]) hE rfl (by decide : (18 : Nat) < 22) fun σ hE => ?_
      refine uSeq (uFor (uList (uLst (uCons ?_))))
      refine st_push hE (hf_var rfl) fun hE => ?_
      refine uCons ?_
      refine st_push hE (hf_var rfl) fun hE => ?_
      refine uNil ?_
      refine st_lstI (α := Tx) _ [t52.1, much] rfl (by decide : (2 : Nat) ≤ line) hE fun I H v hE => ?_
      refine it_list hE fun ja hJ => ?_
      refine st_for (α := Tx) hJ (RetP K ρ Θ (fun b => .im b) Q) (fun (_ : Unit) => [.im (script : Scr), .own (t55.2 : (List Int)), .im (letters : Tx), .im (ys9.1 : (List Int)), .im (t12 : Tx), .im (t14.1 : (List Tx)), .im (base_ : Tx), .im (word : Tx), .im (t16.1 : Tx), .im (t18.1 : (List Tx)), .im (full : Tx), .im (unlike : (List Tx)), .im (t33 : (List Tx)), .any, .any, .any, .im (t52.1 : Tx), .im (much : Tx), .im (t55.1 : Int), .any, .any, .any]) hE ⟨.inr rfl, .inr rfl, .inr rfl, .inr rfl, .inr rfl, .inr rfl, .inr rfl, .inr rfl, .inr rfl, .inr rfl, .inr rfl, .inr rfl, .inr rfl, .inl rfl, .inl rfl, .inl rfl, .inr rfl, .inr rfl, .inr rfl, .inl rfl, .inl rfl, .inl rfl, trivial⟩ h (fun r h => h) (fun bad s I H σ v N B hE h => ?_) (fun s I H σ hE h => ?_)
      ·
        refine st_store (Γ' := [.im (script : Scr), .own (t55.2 : (List Int)), .im (letters : Tx), .im (ys9.1 : (List Int)), .im (t12 : Tx), .im (t14.1 : (List Tx)), .im (base_ : Tx), .im (word : Tx), .im (t16.1 : Tx), .im (t18.1 : (List Tx)), .im (full : Tx), .im (unlike : (List Tx)), .im (t33 : (List Tx)), .any, .any, .any, .im (t52.1 : Tx), .im (much : Tx), .im (t55.1 : Int), .im (bad : Tx), .any, .any]) hE rfl (by decide : (19 : Nat) < 22) fun σ hE => ?_
        refine uIf (uNot (uB (uCallS (uCons ?_))))
        refine st_var hE (i := 9) rfl fun v hE => ?_
        refine uCons ?_
        refine st_push hE (hf_var rfl) fun hE => ?_
        refine uCons ?_
        refine st_push hE (hf_var rfl) fun hE => ?_
        refine uCons ?_
        refine st_push hE (hf_var rfl) fun hE => ?_
        refine uNil ?_
        refine st_call (t18.1, t55.1, word, bad) hE rfl rfl h (fun e x I' H' cls d hm z => x _ H' cls d hm z.clear.nip) fun t56 I H v hE h => ?_
        refine st_vb hE fun hE => ?_
        refine st_ite h (fun h => ?_) (fun h => ?_)
        ·
          exact st_ret hE.pop (hf_c (a := false) rfl trivial) h
        ·
          refine uNext ?_
          exact h _ _ _ (hE.weak (Γ' := [.im (script : Scr), .own (t55.2 : (List Int)), .im (letters : Tx), .im (ys9.1 : (List Int)), .im (t12 : Tx), .im (t14.1 : (List Tx)), .im (base_ : Tx), .im (word : Tx), .im (t16.1 : Tx), .im (t18.1 : (List Tx)), .im (full : Tx), .im (unlike : (List Tx)), .im (t33 : (List Tx)), .any, .any, .any, .im (t52.1 : Tx), .im (much : Tx), .im (t55.1 : Int), .any, .any, .any]) ⟨.inr rfl, .inr rfl, .inr rfl, .inr rfl, .inr rfl, .inr rfl, .inr rfl, .inr rfl, .inr rfl, .inr rfl, .inr rfl, .inr rfl, .inr rfl, .inl rfl, .inl rfl, .inl rfl, .inr rfl, .inr rfl, .inr rfl, .inl rfl, .inl rfl, .inl rfl, trivial⟩)
      refine uRet (uCallS (uCons ?_))
      refine st_push hE (hf_var rfl) fun hE => ?_
      refine uCons ?_
      refine st_push hE (hf_var rfl) fun hE => ?_
      refine uCons ?_
      refine st_push hE (hf_var rfl) fun hE => ?_
      refine uNil ?_
      refine st_call (word, t52.1, much) hE rfl rfl h (fun e x I' H' cls d hm z => x _ H' cls d hm z.clear) fun t58 I H v hE h => ?_
      exact h _ _ _ hE.clear
end
end G
namespace G
open PySem PySem.Spec PyProof.Rows L2 M
section
variable {Pg : Program} {w : World} {K : PySem.W.Frag} {mg : Str → Option Value} {base h : Heap}
abbrev si_BadWord : Stmt := (clsBody (top 2)).getD 0 (.Pass ⟨0, 0, 0, 0⟩)
theorem ok_ini_BadWord {C fI : Addr} {fd : FuncData} (F : Fun K "__init__" "BadWord.__init__" si_BadWord fI fd) (T : OexC K C) (hno : PySem.W.findIn K (.ref C) "word" = some none) : FnOk Pg w K mg base (L2N.CX Pg w) 1 fI fd ["self", "word"] (spIni C "word") := by
  refine okN F (N := ["self", "word"]) ⟨rfl, rfl, rfl, by decide +kernel, rfl, by decide +kernel, by decide +kernel⟩ (fun vs H Q E h => by obtain ⟨a, y, rfl, _⟩ := h; rfl) fun cdv A outer s H vs Q E hr h => ?_
  obtain ⟨a, y, rfl, ea, h⟩ := h
  exact ⟨_, pss_one (ps_ost (pv 0) (pv 1)), y, rfl, .ref a, rfl, a, C, rfl, T, hno, .inl ⟨ea, fun dx n ne => h dx n ne⟩⟩
abbrev si_TooMany : Stmt := (clsBody (top 3)).getD 0 (.Pass ⟨0, 0, 0, 0⟩)
theorem ok_ini_TooMany {C fI : Addr} {fd : FuncData} (F : Fun K "__init__" "TooMany.__init__" si_TooMany fI fd) (T : OexC K C) (hno : PySem.W.findIn K (.ref C) "most" = some none) : FnOk Pg w K mg base (L2N.CX Pg w) 1 fI fd ["self", "most"] (spIni C "most") := by
  refine okN F (N := ["self", "most"]) ⟨rfl, rfl, rfl, by decide +kernel, rfl, by decide +kernel, by decide +kernel⟩ (fun vs H Q E h => by obtain ⟨a, y, rfl, _⟩ := h; rfl) fun cdv A outer s H vs Q E hr h => ?_
  obtain ⟨a, y, rfl, ea, h⟩ := h
  exact ⟨_, pss_one (ps_ost (pv 0) (pv 1)), y, rfl, .ref a, rfl, a, C, rfl, T, hno, .inl ⟨ea, fun dx n ne => h dx n ne⟩⟩
theorem all_mk {fa : Addr} (X : K.In h) (G : h.Ns mainGlobals mg) (hfa : mg "law" = some (.ref fa))
    {f_law_mixed : Addr} {od_law_mixed an_law_mixed : Option Addr} {sl_law_mixed : Array (Option Value)} {oc_law_mixed kV_law_mixed dc_law_mixed pm_law_mixed cd_law_mixed ct_law_mixed : Value}
    {f_law_pool : Addr} {od_law_pool an_law_pool : Option Addr} {sl_law_pool : Array (Option Value)} {oc_law_pool kV_law_pool dc_law_pool pm_law_pool cd_law_pool ct_law_pool : Value}
    {f_law_draw : Addr} {od_law_draw an_law_draw : Option Addr} {sl_law_draw : Array (Option Value)} {oc_law_draw kV_law_draw dc_law_draw pm_law_draw cd_law_draw ct_law_draw : Value}
    {f_law_word : Addr} {od_law_word an_law_word : Option Addr} {sl_law_word : Array (Option Value)} {oc_law_word kV_law_word dc_law_word pm_law_word cd_law_word ct_law_word : Value}
    {f_law_first : Addr} {od_law_first an_law_first : Option Addr} {sl_law_first : Array (Option Value)} {oc_law_first kV_law_first dc_law_first pm_law_first cd_law_first ct_law_first : Value}
    {f_law_second : Addr} {od_law_second an_law_second : Option Addr} {sl_law_second : Array (Option Value)} {oc_law_second kV_law_second dc_law_second pm_law_second cd_law_second ct_law_second : Value}
    {f_law_list : Addr} {od_law_list an_law_list : Option Addr} {sl_law_list : Array (Option Value)} {oc_law_list kV_law_list dc_law_list pm_law_list cd_law_list ct_law_list : Value}
    {f_law_odd : Addr} {od_law_odd an_law_odd : Option Addr} {sl_law_odd : Array (Option Value)} {oc_law_odd kV_law_odd dc_law_odd pm_law_odd cd_law_odd ct_law_odd : Value}
    {f_is_letters : Addr} {od_is_letters an_is_letters : Option Addr} {sl_is_letters : Array (Option Value)} {oc_is_letters kV_is_letters dc_is_letters pm_is_letters cd_is_letters ct_is_letters : Value}
    {f_is_word : Addr} {od_is_word an_is_word : Option Addr} {sl_is_word : Array (Option Value)} {oc_is_word kV_is_word dc_is_word pm_is_word cd_is_word ct_is_word : Value}
    {f_check_word : Addr} {od_check_word an_check_word : Option Addr} {sl_check_word : Array (Option Value)} {oc_check_word kV_check_word dc_check_word pm_check_word cd_check_word ct_check_word : Value}
    {f_check_many : Addr} {od_check_many an_check_many : Option Addr} {sl_check_many : Array (Option Value)} {oc_check_many kV_check_many dc_check_many pm_check_many cd_check_many ct_check_many : Value}
    {f_root : Addr} {od_root an_root : Option Addr} {sl_root : Array (Option Value)} {oc_root kV_root dc_root pm_root cd_root ct_root : Value}
    {f_exponent : Addr} {od_exponent an_exponent : Option Addr} {sl_exponent : Array (Option Value)} {oc_exponent kV_exponent dc_exponent pm_exponent cd_exponent ct_exponent : Value}
    {f_is_primitive : Addr} {od_is_primitive an_is_primitive : Option Addr} {sl_is_primitive : Array (Option Value)} {oc_is_primitive kV_is_primitive dc_is_primitive pm_is_primitive cd_is_primitive ct_is_primitive : Value}
    {f_commute : Addr} {od_commute an_commute : Option Addr} {sl_commute : Array (Option Value)} {oc_commute kV_commute dc_commute pm_commute cd_commute ct_commute : Value}
    {f_common_root : Addr} {od_common_root an_common_root : Option Addr} {sl_common_root : Array (Option Value)} {oc_common_root kV_common_root dc_common_root pm_common_root cd_common_root ct_common_root : Value}
    {f_law_written : Addr} {od_law_written an_law_written : Option Addr} {sl_law_written : Array (Option Value)} {oc_law_written kV_law_written dc_law_written pm_law_written cd_law_written ct_law_written : Value}
    {f_law_root : Addr} {od_law_root an_law_root : Option Addr} {sl_law_root : Array (Option Value)} {oc_law_root kV_law_root dc_law_root pm_law_root cd_law_root ct_law_root : Value}
    {f_law_shared : Addr} {od_law_shared an_law_shared : Option Addr} {sl_law_shared : Array (Option Value)} {oc_law_shared kV_law_shared dc_law_shared pm_law_shared cd_law_shared ct_law_shared : Value}
    {f_law_word_right : Addr} {od_law_word_right an_law_word_right : Option Addr} {sl_law_word_right : Array (Option Value)} {oc_law_word_right kV_law_word_right dc_law_word_right pm_law_word_right cd_law_word_right ct_law_word_right : Value}
    {f_law_pair_right : Addr} {od_law_pair_right an_law_pair_right : Option Addr} {sl_law_pair_right : Array (Option Value)} {oc_law_pair_right kV_law_pair_right dc_law_pair_right pm_law_pair_right cd_law_pair_right ct_law_pair_right : Value}
    {f_law_list_right : Addr} {od_law_list_right an_law_list_right : Option Addr} {sl_law_list_right : Array (Option Value)} {oc_law_list_right kV_law_list_right dc_law_list_right pm_law_list_right cd_law_list_right ct_law_list_right : Value}
    {f_law_told : Addr} {od_law_told an_law_told : Option Addr} {sl_law_told : Array (Option Value)} {oc_law_told kV_law_told dc_law_told pm_law_told cd_law_told ct_law_told : Value}
    {f_law_refuses : Addr} {od_law_refuses an_law_refuses : Option Addr} {sl_law_refuses : Array (Option Value)} {oc_law_refuses kV_law_refuses dc_law_refuses pm_law_refuses cd_law_refuses ct_law_refuses : Value}
    {f_law_refuses_first : Addr} {od_law_refuses_first an_law_refuses_first : Option Addr} {sl_law_refuses_first : Array (Option Value)} {oc_law_refuses_first kV_law_refuses_first dc_law_refuses_first pm_law_refuses_first cd_law_refuses_first ct_law_refuses_first : Value}
    {f_law : Addr} {od_law an_law : Option Addr} {sl_law : Array (Option Value)} {oc_law kV_law dc_law pm_law cd_law ct_law : Value}
    {C_BadWord I_BadWord N_BadWord : Addr} {nm_BadWord q_BadWord : Str} {bs_BadWord bm_BadWord sub_BadWord : List Value} {sn_BadWord : List Str} {ab_BadWord : Bool} {col_BadWord : Option Bool} {dd_BadWord : Option Addr} {m0_BadWord m1_BadWord m2_BadWord m3_BadWord m5_BadWord : Option Value} {od_BadWord an_BadWord : Option Addr} {sl_BadWord : Array (Option Value)} {oc_BadWord dc_BadWord pm_BadWord cd_BadWord ct_BadWord kV_BadWord : Value}
    {C_TooMany I_TooMany N_TooMany : Addr} {nm_TooMany q_TooMany : Str} {bs_TooMany bm_TooMany sub_TooMany : List Value} {sn_TooMany : List Str} {ab_TooMany : Bool} {col_TooMany : Option Bool} {dd_TooMany : Option Addr} {m0_TooMany m1_TooMany m2_TooMany m3_TooMany m5_TooMany : Option Value} {od_TooMany an_TooMany : Option Addr} {sl_TooMany : Array (Option Value)} {oc_TooMany dc_TooMany pm_TooMany cd_TooMany ct_TooMany kV_TooMany : Value}
    {C_WordError : Addr}
    (a_law_mixed : PySem.W.nsIn K mainGlobals "_law_mixed" = some (some (.ref f_law_mixed)))
    (l_law_mixed : K.lookup f_law_mixed = some ⟨oc_law_mixed, od_law_mixed, .func (PySem.W.fnOf "_law_mixed" "_law_mixed" (defArgs s_law_mixed) (defBody s_law_mixed) (defScope s_law_mixed) .none kV_law_mixed dc_law_mixed pm_law_mixed an_law_mixed cd_law_mixed ct_law_mixed), sl_law_mixed⟩)
    (c_law_mixed : PySem.W.codeIn K cd_law_mixed "_law_mixed" = true)
    (k_law_mixed : PySem.W.keepIn K (.ref f_law_mixed) = true)
    (a_law_pool : PySem.W.nsIn K mainGlobals "_law_pool" = some (some (.ref f_law_pool)))
    (l_law_pool : K.lookup f_law_pool = some ⟨oc_law_pool, od_law_pool, .func (PySem.W.fnOf "_law_pool" "_law_pool" (defArgs s_law_pool) (defBody s_law_pool) (defScope s_law_pool) .none kV_law_pool dc_law_pool pm_law_pool an_law_pool cd_law_pool ct_law_pool), sl_law_pool⟩)
    (c_law_pool : PySem.W.codeIn K cd_law_pool "_law_pool" = true)
    (k_law_pool : PySem.W.keepIn K (.ref f_law_pool) = true)
    (a_law_draw : PySem.W.nsIn K mainGlobals "_law_draw" = some (some (.ref f_law_draw)))
    (l_law_draw : K.lookup f_law_draw = some ⟨oc_law_draw, od_law_draw, .func (PySem.W.fnOf "_law_draw" "_law_draw" (defArgs s_law_draw) (defBody s_law_draw) (defScope s_law_draw) .none kV_law_draw dc_law_draw pm_law_draw an_law_draw cd_law_draw ct_law_draw), sl_law_draw⟩)
    (c_law_draw : PySem.W.codeIn K cd_law_draw "_law_draw" = true)
    (k_law_draw : PySem.W.keepIn K (.ref f_law_draw) = true)
    (a_law_word : PySem.W.nsIn K mainGlobals "_law_word" = some (some (.ref f_law_word)))
    (l_law_word : K.lookup f_law_word = some ⟨oc_law_word, od_law_word, .func (PySem.W.fnOf "_law_word" "_law_word" (defArgs s_law_word) (defBody s_law_word) (defScope s_law_word) .none kV_law_word dc_law_word pm_law_word an_law_word cd_law_word ct_law_word), sl_law_word⟩)
    (c_law_word : PySem.W.codeIn K cd_law_word "_law_word" = true)
    (k_law_word : PySem.W.keepIn K (.ref f_law_word) = true)
    (a_law_first : PySem.W.nsIn K mainGlobals "_law_first" = some (some (.ref f_law_first)))
    (l_law_first : K.lookup f_law_first = some ⟨oc_law_first, od_law_first, .func (PySem.W.fnOf "_law_first" "_law_first" (defArgs s_law_first) (defBody s_law_first) (defScope s_law_first) .none kV_law_first dc_law_first pm_law_first an_law_first cd_law_first ct_law_first), sl_law_first⟩)
    (c_law_first : PySem.W.codeIn K cd_law_first "_law_first" = true)
    (k_law_first : PySem.W.keepIn K (.ref f_law_first) = true)
    (a_law_second : PySem.W.nsIn K mainGlobals "_law_second" = some (some (.ref f_law_second)))
    (l_law_second : K.lookup f_law_second = some ⟨oc_law_second, od_law_second, .func (PySem.W.fnOf "_law_second" "_law_second" (defArgs s_law_second) (defBody s_law_second) (defScope s_law_second) .none kV_law_second dc_law_second pm_law_second an_law_second cd_law_second ct_law_second), sl_law_second⟩)
    (c_law_second : PySem.W.codeIn K cd_law_second "_law_second" = true)
    (k_law_second : PySem.W.keepIn K (.ref f_law_second) = true)
    (a_law_list : PySem.W.nsIn K mainGlobals "_law_list" = some (some (.ref f_law_list)))
    (l_law_list : K.lookup f_law_list = some ⟨oc_law_list, od_law_list, .func (PySem.W.fnOf "_law_list" "_law_list" (defArgs s_law_list) (defBody s_law_list) (defScope s_law_list) .none kV_law_list dc_law_list pm_law_list an_law_list cd_law_list ct_law_list), sl_law_list⟩)
    (c_law_list : PySem.W.codeIn K cd_law_list "_law_list" = true)
    (k_law_list : PySem.W.keepIn K (.ref f_law_list) = true)
    (a_law_odd : PySem.W.nsIn K mainGlobals "_law_odd" = some (some (.ref f_law_odd)))
    (l_law_odd : K.lookup f_law_odd = some ⟨oc_law_odd, od_law_odd, .func (PySem.W.fnOf "_law_odd" "_law_odd" (defArgs s_law_odd) (defBody s_law_odd) (defScope s_law_odd) .none kV_law_odd dc_law_odd pm_law_odd an_law_odd cd_law_odd ct_law_odd), sl_law_odd⟩)
    (c_law_odd : PySem.W.codeIn K cd_law_odd "_law_odd" = true)
    (k_law_odd : PySem.W.keepIn K (.ref f_law_odd) = true)
    (a_is_letters : PySem.W.nsIn K mainGlobals "is_letters" = some (some (.ref f_is_letters)))
    (l_is_letters : K.lookup f_is_letters = some ⟨oc_is_letters, od_is_letters, .func (PySem.W.fnOf "is_letters" "is_letters" (defArgs s_is_letters) (defBody s_is_letters) (defScope s_is_letters) .none kV_is_letters dc_is_letters pm_is_letters an_is_letters cd_is_letters ct_is_letters), sl_is_letters⟩)
    (c_is_letters : PySem.W.codeIn K cd_is_letters "is_letters" = true)
    (k_is_letters : PySem.W.keepIn K (.ref f_is_letters) = true)
    (a_is_word : PySem.W.nsIn K mainGlobals "is_word" = some (some (.ref f_is_word)))
    (l_is_word : K.lookup f_is_word = some ⟨oc_is_word, od_is_word, .func (PySem.W.fnOf "is_word" "is_word" (defArgs s_is_word) (defBody s_is_word) (defScope s_is_word) .none kV_is_word dc_is_word pm_is_word an_is_word cd_is_word ct_is_word), sl_is_word⟩)
    (c_is_word : PySem.W.codeIn K cd_is_word "is_word" = true)
    (k_is_word : PySem.W.keepIn K (.ref f_is_word) = true)
    (a_check_word : PySem.W.nsIn K mainGlobals "check_word" = some (some (.ref f_check_word)))
    (l_check_word : K.lookup f_check_word = some ⟨oc_check_word, od_check_word, .func (PySem.W.fnOf "check_word" "check_word" (defArgs s_check_word) (defBody s_check_word) (defScope s_check_word) .none kV_check_word dc_check_word pm_check_word an_check_word cd_check_word ct_check_word), sl_check_word⟩)
    (c_check_word : PySem.W.codeIn K cd_check_word "check_word" = true)
    (k_check_word : PySem.W.keepIn K (.ref f_check_word) = true)
    (a_check_many : PySem.W.nsIn K mainGlobals "check_many" = some (some (.ref f_check_many)))
    (l_check_many : K.lookup f_check_many = some ⟨oc_check_many, od_check_many, .func (PySem.W.fnOf "check_many" "check_many" (defArgs s_check_many) (defBody s_check_many) (defScope s_check_many) .none kV_check_many dc_check_many pm_check_many an_check_many cd_check_many ct_check_many), sl_check_many⟩)
    (c_check_many : PySem.W.codeIn K cd_check_many "check_many" = true)
    (k_check_many : PySem.W.keepIn K (.ref f_check_many) = true)
    (a_root : PySem.W.nsIn K mainGlobals "root" = some (some (.ref f_root)))
    (l_root : K.lookup f_root = some ⟨oc_root, od_root, .func (PySem.W.fnOf "root" "root" (defArgs s_root) (defBody s_root) (defScope s_root) .none kV_root dc_root pm_root an_root cd_root ct_root), sl_root⟩)
    (c_root : PySem.W.codeIn K cd_root "root" = true)
    (k_root : PySem.W.keepIn K (.ref f_root) = true)
    (a_exponent : PySem.W.nsIn K mainGlobals "exponent" = some (some (.ref f_exponent)))
    (l_exponent : K.lookup f_exponent = some ⟨oc_exponent, od_exponent, .func (PySem.W.fnOf "exponent" "exponent" (defArgs s_exponent) (defBody s_exponent) (defScope s_exponent) .none kV_exponent dc_exponent pm_exponent an_exponent cd_exponent ct_exponent), sl_exponent⟩)
    (c_exponent : PySem.W.codeIn K cd_exponent "exponent" = true)
    (k_exponent : PySem.W.keepIn K (.ref f_exponent) = true)
    (a_is_primitive : PySem.W.nsIn K mainGlobals "is_primitive" = some (some (.ref f_is_primitive)))
    (l_is_primitive : K.lookup f_is_primitive = some ⟨oc_is_primitive, od_is_primitive, .func (PySem.W.fnOf "is_primitive" "is_primitive" (defArgs s_is_primitive) (defBody s_is_primitive) (defScope s_is_primitive) .none kV_is_primitive dc_is_primitive pm_is_primitive an_is_primitive cd_is_primitive ct_is_primitive), sl_is_primitive⟩)
    (c_is_primitive : PySem.W.codeIn K cd_is_primitive "is_primitive" = true)
    (k_is_primitive : PySem.W.keepIn K (.ref f_is_primitive) = true)
    (a_commute : PySem.W.nsIn K mainGlobals "commute" = some (some (.ref f_commute)))
    (l_commute : K.lookup f_commute = some ⟨oc_commute, od_commute, .func (PySem.W.fnOf "commute" "commute" (defArgs s_commute) (defBody s_commute) (defScope s_commute) .none kV_commute dc_commute pm_commute an_commute cd_commute ct_commute), sl_commute⟩)
    (c_commute : PySem.W.codeIn K cd_commute "commute" = true)
    (k_commute : PySem.W.keepIn K (.ref f_commute) = true)
    (a_common_root : PySem.W.nsIn K mainGlobals "common_root" = some (some (.ref f_common_root)))
    (l_common_root : K.lookup f_common_root = some ⟨oc_common_root, od_common_root, .func (PySem.W.fnOf "common_root" "common_root" (defArgs s_common_root) (defBody s_common_root) (defScope s_common_root) .none kV_common_root dc_common_root pm_common_root an_common_root cd_common_root ct_common_root), sl_common_root⟩)
    (c_common_root : PySem.W.codeIn K cd_common_root "common_root" = true)
    (k_common_root : PySem.W.keepIn K (.ref f_common_root) = true)
    (a_law_written : PySem.W.nsIn K mainGlobals "_law_written" = some (some (.ref f_law_written)))
    (l_law_written : K.lookup f_law_written = some ⟨oc_law_written, od_law_written, .func (PySem.W.fnOf "_law_written" "_law_written" (defArgs s_law_written) (defBody s_law_written) (defScope s_law_written) .none kV_law_written dc_law_written pm_law_written an_law_written cd_law_written ct_law_written), sl_law_written⟩)
    (c_law_written : PySem.W.codeIn K cd_law_written "_law_written" = true)
    (k_law_written : PySem.W.keepIn K (.ref f_law_written) = true)
    (a_law_root : PySem.W.nsIn K mainGlobals "_law_root" = some (some (.ref f_law_root)))
    (l_law_root : K.lookup f_law_root = some ⟨oc_law_root, od_law_root, .func (PySem.W.fnOf "_law_root" "_law_root" (defArgs s_law_root) (defBody s_law_root) (defScope s_law_root) .none kV_law_root dc_law_root pm_law_root an_law_root cd_law_root ct_law_root), sl_law_root⟩)
    (c_law_root : PySem.W.codeIn K cd_law_root "_law_root" = true)
    (k_law_root : PySem.W.keepIn K (.ref f_law_root) = true)
    (a_law_shared : PySem.W.nsIn K mainGlobals "_law_shared" = some (some (.ref f_law_shared)))
    (l_law_shared : K.lookup f_law_shared = some ⟨oc_law_shared, od_law_shared, .func (PySem.W.fnOf "_law_shared" "_law_shared" (defArgs s_law_shared) (defBody s_law_shared) (defScope s_law_shared) .none kV_law_shared dc_law_shared pm_law_shared an_law_shared cd_law_shared ct_law_shared), sl_law_shared⟩)
    (c_law_shared : PySem.W.codeIn K cd_law_shared "_law_shared" = true)
    (k_law_shared : PySem.W.keepIn K (.ref f_law_shared) = true)
    (a_law_word_right : PySem.W.nsIn K mainGlobals "_law_word_right" = some (some (.ref f_law_word_right)))
    (l_law_word_right : K.lookup f_law_word_right = some ⟨oc_law_word_right, od_law_word_right, .func (PySem.W.fnOf "_law_word_right" "_law_word_right" (defArgs s_law_word_right) (defBody s_law_word_right) (defScope s_law_word_right) .none kV_law_word_right dc_law_word_right pm_law_word_right an_law_word_right cd_law_word_right ct_law_word_right), sl_law_word_right⟩)
    (c_law_word_right : PySem.W.codeIn K cd_law_word_right "_law_word_right" = true)
    (k_law_word_right : PySem.W.keepIn K (.ref f_law_word_right) = true)
    (a_law_pair_right : PySem.W.nsIn K mainGlobals "_law_pair_right" = some (some (.ref f_law_pair_right)))
    (l_law_pair_right : K.lookup f_law_pair_right = some ⟨oc_law_pair_right, od_law_pair_right, .func (PySem.W.fnOf "_law_pair_right" "_law_pair_right" (defArgs s_law_pair_right) (defBody s_law_pair_right) (defScope s_law_pair_right) .none kV_law_pair_right dc_law_pair_right pm_law_pair_right an_law_pair_right cd_law_pair_right ct_law_pair_right), sl_law_pair_right⟩)
    (c_law_pair_right : PySem.W.codeIn K cd_law_pair_right "_law_pair_right" = true)
    (k_law_pair_right : PySem.W.keepIn K (.ref f_law_pair_right) = true)
    (a_law_list_right : PySem.W.nsIn K mainGlobals "_law_list_right" = some (some (.ref f_law_list_right)))
    (l_law_list_right : K.lookup f_law_list_right = some ⟨oc_law_list_right, od_law_list_right, .func (PySem.W.fnOf "_law_list_right" "_law_list_right" (defArgs s_law_list_right) (defBody s_law_list_right) (defScope s_law_list_right) .none kV_law_list_right dc_law_list_right pm_law_list_right an_law_list_right cd_law_list_right ct_law_list_right), sl_law_list_right⟩)
    (c_law_list_right : PySem.W.codeIn K cd_law_list_right "_law_list_right" = true)
    (k_law_list_right : PySem.W.keepIn K (.ref f_law_list_right) = true)
    (a_law_told : PySem.W.nsIn K mainGlobals "_law_told" = some (some (.ref f_law_told)))
    (l_law_told : K.lookup f_law_told = some ⟨oc_law_told, od_law_told, .func (PySem.W.fnOf "_law_told" "_law_told" (defArgs s_law_told) (defBody s_law_told) (defScope s_law_told) .none kV_law_told dc_law_told pm_law_told an_law_told cd_law_told ct_law_told), sl_law_told⟩)
    (c_law_told : PySem.W.codeIn K cd_law_told "_law_told" = true)
    (k_law_told : PySem.W.keepIn K (.ref f_law_told) = true)
    (a_law_refuses : PySem.W.nsIn K mainGlobals "_law_refuses" = some (some (.ref f_law_refuses)))
    (l_law_refuses : K.lookup f_law_refuses = some ⟨oc_law_refuses, od_law_refuses, .func (PySem.W.fnOf "_law_refuses" "_law_refuses" (defArgs s_law_refuses) (defBody s_law_refuses) (defScope s_law_refuses) .none kV_law_refuses dc_law_refuses pm_law_refuses an_law_refuses cd_law_refuses ct_law_refuses), sl_law_refuses⟩)
    (c_law_refuses : PySem.W.codeIn K cd_law_refuses "_law_refuses" = true)
    (k_law_refuses : PySem.W.keepIn K (.ref f_law_refuses) = true)
    (a_law_refuses_first : PySem.W.nsIn K mainGlobals "_law_refuses_first" = some (some (.ref f_law_refuses_first)))
    (l_law_refuses_first : K.lookup f_law_refuses_first = some ⟨oc_law_refuses_first, od_law_refuses_first, .func (PySem.W.fnOf "_law_refuses_first" "_law_refuses_first" (defArgs s_law_refuses_first) (defBody s_law_refuses_first) (defScope s_law_refuses_first) .none kV_law_refuses_first dc_law_refuses_first pm_law_refuses_first an_law_refuses_first cd_law_refuses_first ct_law_refuses_first), sl_law_refuses_first⟩)
    (c_law_refuses_first : PySem.W.codeIn K cd_law_refuses_first "_law_refuses_first" = true)
    (k_law_refuses_first : PySem.W.keepIn K (.ref f_law_refuses_first) = true)
    (a_law : PySem.W.nsIn K mainGlobals "law" = some (some (.ref f_law)))
    (l_law : K.lookup f_law = some ⟨oc_law, od_law, .func (PySem.W.fnOf "law" "law" (defArgs s_law) (defBody s_law) (defScope s_law) .none kV_law dc_law pm_law an_law cd_law ct_law), sl_law⟩)
    (c_law : PySem.W.codeIn K cd_law "law" = true)
    (k_law : PySem.W.keepIn K (.ref f_law) = true)
    (hn0 : PySem.W.specialIn K (.builtin "object.__class__") "__get__" = some (some (.builtin "getset_descriptor.__get__")))
    (ht0 : PySem.W.takesIn K (.builtin "object.__class__") = some true)
    (a_BadWord : PySem.W.nsIn K mainGlobals "BadWord" = some (some (.ref C_BadWord)))
    (x_BadWord : K.lookup C_BadWord = some (excClassObj nm_BadWord q_BadWord C_BadWord N_BadWord bs_BadWord bm_BadWord true sn_BadWord sub_BadWord ab_BadWord col_BadWord dd_BadWord m0_BadWord m1_BadWord m2_BadWord m3_BadWord m5_BadWord "ValueError.__new__"))
    (rv_BadWord : PySem.HandSPX.refsVE bm_BadWord = true)
    (sa_BadWord : PySem.W.findIn K (.ref C_BadWord) "__setattr__" = some (some (.builtin "object.__setattr__")))
    (ga_BadWord : PySem.W.findIn K (.ref C_BadWord) "__getattribute__" = some (some (.builtin "BaseException.__getattribute__")))
    (gg_BadWord : PySem.W.findIn K (.ref C_BadWord) "__getattr__" = some none)
    (nb_BadWord : PySem.W.findIn K (.ref C_BadWord) "word" = some none)
    (i_BadWord : PySem.W.findIn K (.ref C_BadWord) "__init__" = some (some (.ref I_BadWord)))
    (t_BadWord : PySem.W.typeIn K (.ref I_BadWord) = some (.type "function"))
    (l_BadWord : K.lookup I_BadWord = some ⟨oc_BadWord, od_BadWord, .func (PySem.W.fnOf "__init__" "BadWord.__init__" (defArgs si_BadWord) (defBody si_BadWord) (defScope si_BadWord) .none kV_BadWord dc_BadWord pm_BadWord an_BadWord cd_BadWord ct_BadWord), sl_BadWord⟩)
    (c_BadWord : PySem.W.codeIn K cd_BadWord "BadWord.__init__" = true)
    (ki_BadWord : PySem.W.keepIn K (.ref I_BadWord) = true)
    (kC_BadWord : PySem.W.keepIn K (.ref C_BadWord) = true)
    (eC_BadWord : PySem.W.subIn K (.ref C_BadWord) (.type "BaseException") = some true)
    (tC_BadWord : PySem.W.typeIn K (.ref C_BadWord) = some (.type "type"))
    (hC_BadWord : PySem.W.hasDictIn K C_BadWord = true)
    (ha_BadWord : PySem.W.findIn K (.ref C_BadWord) "__class__" = some (some (.builtin "object.__class__")))
    (hm_BadWord : PySem.W.mroIn K C_BadWord (.type "object") = some true)
    (a_TooMany : PySem.W.nsIn K mainGlobals "TooMany" = some (some (.ref C_TooMany)))
    (x_TooMany : K.lookup C_TooMany = some (excClassObj nm_TooMany q_TooMany C_TooMany N_TooMany bs_TooMany bm_TooMany true sn_TooMany sub_TooMany ab_TooMany col_TooMany dd_TooMany m0_TooMany m1_TooMany m2_TooMany m3_TooMany m5_TooMany "ValueError.__new__"))
    (rv_TooMany : PySem.HandSPX.refsVE bm_TooMany = true)
    (sa_TooMany : PySem.W.findIn K (.ref C_TooMany) "__setattr__" = some (some (.builtin "object.__setattr__")))
    (ga_TooMany : PySem.W.findIn K (.ref C_TooMany) "__getattribute__" = some (some (.builtin "BaseException.__getattribute__")))
    (gg_TooMany : PySem.W.findIn K (.ref C_TooMany) "__getattr__" = some none)
    (nb_TooMany : PySem.W.findIn K (.ref C_TooMany) "most" = some none)
    (i_TooMany : PySem.W.findIn K (.ref C_TooMany) "__init__" = some (some (.ref I_TooMany)))
    (t_TooMany : PySem.W.typeIn K (.ref I_TooMany) = some (.type "function"))
    (l_TooMany : K.lookup I_TooMany = some ⟨oc_TooMany, od_TooMany, .func (PySem.W.fnOf "__init__" "TooMany.__init__" (defArgs si_TooMany) (defBody si_TooMany) (defScope si_TooMany) .none kV_TooMany dc_TooMany pm_TooMany an_TooMany cd_TooMany ct_TooMany), sl_TooMany⟩)
    (c_TooMany : PySem.W.codeIn K cd_TooMany "TooMany.__init__" = true)
    (ki_TooMany : PySem.W.keepIn K (.ref I_TooMany) = true)
    (kC_TooMany : PySem.W.keepIn K (.ref C_TooMany) = true)
    (eC_TooMany : PySem.W.subIn K (.ref C_TooMany) (.type "BaseException") = some true)
    (tC_TooMany : PySem.W.typeIn K (.ref C_TooMany) = some (.type "type"))
    (hC_TooMany : PySem.W.hasDictIn K C_TooMany = true)
    (ha_TooMany : PySem.W.findIn K (.ref C_TooMany) "__class__" = some (some (.builtin "object.__class__")))
    (hm_TooMany : PySem.W.mroIn K C_TooMany (.type "object") = some true)
    (a_WordError : PySem.W.nsIn K mainGlobals "WordError" = some (some (.ref C_WordError)))
    (eC_WordError : PySem.W.subIn K (.ref C_WordError) (.type "BaseException") = some true)
    (tC_WordError : PySem.W.typeIn K (.ref C_WordError) = some (.type "type"))
    (hC_WordError : PySem.W.hasDictIn K C_WordError = true)
    (S0_BadWord : PySem.W.subIn K (.ref C_BadWord) (.ref C_BadWord) = some true)
    (S0_TooMany : PySem.W.subIn K (.ref C_TooMany) (.ref C_TooMany) = some true)
    (S_TooMany_BadWord : PySem.W.subIn K (.ref C_TooMany) (.ref C_BadWord) = some false)
    (S_BadWord_TooMany : PySem.W.subIn K (.ref C_BadWord) (.ref C_TooMany) = some false)
    (S_BadWord_ValueError : PySem.W.subIn K (.ref C_BadWord) (.type "ValueError") = some true)
    (S_TooMany_ValueError : PySem.W.subIn K (.ref C_TooMany) (.type "ValueError") = some true)
    (S_BadWord_WordError : PySem.W.subIn K (.ref C_BadWord) (.ref C_WordError) = some true)
    (S_TooMany_WordError : PySem.W.subIn K (.ref C_TooMany) (.ref C_WordError) = some true)
    (z_ValueError : PySem.W.nsIn K mainGlobals "ValueError" = some none)
    (z_abs : PySem.W.nsIn K mainGlobals "abs" = some none)
    (z_bool : PySem.W.nsIn K mainGlobals "bool" = some none)
    (z_int : PySem.W.nsIn K mainGlobals "int" = some none)
    (z_isinstance : PySem.W.nsIn K mainGlobals "isinstance" = some none)
    (z_len : PySem.W.nsIn K mainGlobals "len" = some none)
    (z_list : PySem.W.nsIn K mainGlobals "list" = some none)
    (z_max : PySem.W.nsIn K mainGlobals "max" = some none)
    (z_min : PySem.W.nsIn K mainGlobals "min" = some none)
    (z_range : PySem.W.nsIn K mainGlobals "range" = some none)
    (z_str : PySem.W.nsIn K mainGlobals "str" = some none)
    (z_tuple : PySem.W.nsIn K mainGlobals "tuple" = some none)
    : ∃ fd : FuncData, (∀ (s : Shared) (v : Value), BindsTo s fd ⟨[v], []⟩ [("script", v)]) ∧ ∀ base : Heap, K.In base → base.Ns mainGlobals mg → FnOk Pg w K mg base (L2N.CX Pg w) 9 fa fd ["script"] (spLaw m_law K) := by
  have e := hfa.symm.trans (PySem.W.mg_of X G a_law)
  cases e
  have F_law_mixed := fun_mk (st := s_law_mixed) l_law_mixed c_law_mixed k_law_mixed
  have b_law_mixed := F_law_mixed.binds (ps := ["cell", "k"]) fun _ _ _ _ _ _ us hl => match us, hl with | [_, _], _ => rfl
  have F_law_pool := fun_mk (st := s_law_pool) l_law_pool c_law_pool k_law_pool
  have b_law_pool := F_law_pool.binds (ps := ["script"]) fun _ _ _ _ _ _ us hl => match us, hl with | [_], _ => rfl
  have F_law_draw := fun_mk (st := s_law_draw) l_law_draw c_law_draw k_law_draw
  have b_law_draw := F_law_draw.binds (ps := ["pool", "k", "many"]) fun _ _ _ _ _ _ us hl => match us, hl with | [_, _, _], _ => rfl
  have F_law_word := fun_mk (st := s_law_word) l_law_word c_law_word k_law_word
  have b_law_word := F_law_word.binds (ps := ["pool", "k", "kinds", "size"]) fun _ _ _ _ _ _ us hl => match us, hl with | [_, _, _, _], _ => rfl
  have F_law_first := fun_mk (st := s_law_first) l_law_first c_law_first k_law_first
  have b_law_first := F_law_first.binds (ps := ["pool", "kinds"]) fun _ _ _ _ _ _ us hl => match us, hl with | [_, _], _ => rfl
  have F_law_second := fun_mk (st := s_law_second) l_law_second c_law_second k_law_second
  have b_law_second := F_law_second.binds (ps := ["pool", "kinds", "base", "word"]) fun _ _ _ _ _ _ us hl => match us, hl with | [_, _, _, _], _ => rfl
  have F_law_list := fun_mk (st := s_law_list) l_law_list c_law_list k_law_list
  have b_law_list := F_law_list.binds (ps := ["pool", "kinds", "base"]) fun _ _ _ _ _ _ us hl => match us, hl with | [_, _, _], _ => rfl
  have F_law_odd := fun_mk (st := s_law_odd) l_law_odd c_law_odd k_law_odd
  have b_law_odd := F_law_odd.binds (ps := ["pool", "word"]) fun _ _ _ _ _ _ us hl => match us, hl with | [_, _], _ => rfl
  have F_is_letters := fun_mk (st := s_is_letters) l_is_letters c_is_letters k_is_letters
  have b_is_letters := F_is_letters.binds (ps := ["text", "most"]) fun _ _ _ _ _ _ us hl => match us, hl with | [_, _], _ => rfl
  have F_is_word := fun_mk (st := s_is_word) l_is_word c_is_word k_is_word
  have b_is_word := F_is_word.binds (ps := ["text"]) fun _ _ _ _ _ _ us hl => match us, hl with | [_], _ => rfl
  have F_check_word := fun_mk (st := s_check_word) l_check_word c_check_word k_check_word
  have b_check_word := F_check_word.binds (ps := ["word"]) fun _ _ _ _ _ _ us hl => match us, hl with | [_], _ => rfl
  have F_check_many := fun_mk (st := s_check_many) l_check_many c_check_many k_check_many
  have b_check_many := F_check_many.binds (ps := ["things", "most"]) fun _ _ _ _ _ _ us hl => match us, hl with | [_, _], _ => rfl
  have F_root := fun_mk (st := s_root) l_root c_root k_root
  have b_root := F_root.binds (ps := ["word"]) fun _ _ _ _ _ _ us hl => match us, hl with | [_], _ => rfl
  have F_exponent := fun_mk (st := s_exponent) l_exponent c_exponent k_exponent
  have b_exponent := F_exponent.binds (ps := ["word"]) fun _ _ _ _ _ _ us hl => match us, hl with | [_], _ => rfl
  have F_is_primitive := fun_mk (st := s_is_primitive) l_is_primitive c_is_primitive k_is_primitive
  have b_is_primitive := F_is_primitive.binds (ps := ["word"]) fun _ _ _ _ _ _ us hl => match us, hl with | [_], _ => rfl
  have F_commute := fun_mk (st := s_commute) l_commute c_commute k_commute
  have b_commute := F_commute.binds (ps := ["first", "second"]) fun _ _ _ _ _ _ us hl => match us, hl with | [_, _], _ => rfl
  have F_common_root := fun_mk (st := s_common_root) l_common_root c_common_root k_common_root
  have b_common_root := F_common_root.binds (ps := ["words"]) fun _ _ _ _ _ _ us hl => match us, hl with | [_], _ => rfl
  have F_law_written := fun_mk (st := s_law_written) l_law_written c_law_written k_law_written
  have b_law_written := F_law_written.binds (ps := ["word", "count"]) fun _ _ _ _ _ _ us hl => match us, hl with | [_, _], _ => rfl
  have F_law_root := fun_mk (st := s_law_root) l_law_root c_law_root k_law_root
  have b_law_root := F_law_root.binds (ps := ["word"]) fun _ _ _ _ _ _ us hl => match us, hl with | [_], _ => rfl
  have F_law_shared := fun_mk (st := s_law_shared) l_law_shared c_law_shared k_law_shared
  have b_law_shared := F_law_shared.binds (ps := ["words"]) fun _ _ _ _ _ _ us hl => match us, hl with | [_], _ => rfl
  have F_law_word_right := fun_mk (st := s_law_word_right) l_law_word_right c_law_word_right k_law_word_right
  have b_law_word_right := F_law_word_right.binds (ps := ["word"]) fun _ _ _ _ _ _ us hl => match us, hl with | [_], _ => rfl
  have F_law_pair_right := fun_mk (st := s_law_pair_right) l_law_pair_right c_law_pair_right k_law_pair_right
  have b_law_pair_right := F_law_pair_right.binds (ps := ["first", "second"]) fun _ _ _ _ _ _ us hl => match us, hl with | [_, _], _ => rfl
  have F_law_list_right := fun_mk (st := s_law_list_right) l_law_list_right c_law_list_right k_law_list_right
  have b_law_list_right := F_law_list_right.binds (ps := ["words"]) fun _ _ _ _ _ _ us hl => match us, hl with | [_], _ => rfl
  have F_law_told := fun_mk (st := s_law_told) l_law_told c_law_told k_law_told
  have b_law_told := F_law_told.binds (ps := ["task", "given"]) fun _ _ _ _ _ _ us hl => match us, hl with | [_, _], _ => rfl
  have F_law_refuses := fun_mk (st := s_law_refuses) l_law_refuses c_law_refuses k_law_refuses
  have b_law_refuses := F_law_refuses.binds (ps := ["words", "at", "word", "bad"]) fun _ _ _ _ _ _ us hl => match us, hl with | [_, _, _, _], _ => rfl
  have F_law_refuses_first := fun_mk (st := s_law_refuses_first) l_law_refuses_first c_law_refuses_first k_law_refuses_first
  have b_law_refuses_first := F_law_refuses_first.binds (ps := ["word", "odd", "much"]) fun _ _ _ _ _ _ us hl => match us, hl with | [_, _, _], _ => rfl
  have F_law := fun_mk (st := s_law) l_law c_law k_law
  have b_law := F_law.binds (ps := ["script"]) fun _ _ _ _ _ _ us hl => match us, hl with | [_], _ => rfl
  have T_BadWord : OexC K C_BadWord := ⟨⟨_, _, _, _, _, _, _, _, _, _, _, _, _, _, _, x_BadWord, rv_BadWord⟩, sa_BadWord, eC_BadWord, tC_BadWord, kC_BadWord⟩
  have F_BadWord := fun_mk (st := si_BadWord) l_BadWord c_BadWord ki_BadWord
  have b_BadWord := F_BadWord.binds (ps := ["self", "word"]) fun _ _ _ _ _ _ us hl => match us, hl with | [_, _], _ => rfl
  have T_TooMany : OexC K C_TooMany := ⟨⟨_, _, _, _, _, _, _, _, _, _, _, _, _, _, _, x_TooMany, rv_TooMany⟩, sa_TooMany, eC_TooMany, tC_TooMany, kC_TooMany⟩
  have F_TooMany := fun_mk (st := si_TooMany) l_TooMany c_TooMany ki_TooMany
  have b_TooMany := F_TooMany.binds (ps := ["self", "most"]) fun _ _ _ _ _ _ us hl => match us, hl with | [_, _], _ => rfl
  let T : Txt Pg w K mg := {
    a_law_mixed := _,
    d_law_mixed := _,
    F_law_mixed := F_law_mixed,
    g_law_mixed := PySem.W.mg_of X G a_law_mixed,
    b_law_mixed := b_law_mixed,
    a_law_pool := _,
    d_law_pool := _,
    F_law_pool := F_law_pool,
    g_law_pool := PySem.W.mg_of X G a_law_pool,
    b_law_pool := b_law_pool,
    a_law_draw := _,
    d_law_draw := _,
    F_law_draw := F_law_draw,
    g_law_draw := PySem.W.mg_of X G a_law_draw,
    b_law_draw := b_law_draw,
    a_law_word := _,
    d_law_word := _,
    F_law_word := F_law_word,
    g_law_word := PySem.W.mg_of X G a_law_word,
    b_law_word := b_law_word,
    a_law_first := _,
    d_law_first := _,
    F_law_first := F_law_first,
    g_law_first := PySem.W.mg_of X G a_law_first,
    b_law_first := b_law_first,
    a_law_second := _,
    d_law_second := _,
    F_law_second := F_law_second,
    g_law_second := PySem.W.mg_of X G a_law_second,
    b_law_second := b_law_second,
    a_law_list := _,
    d_law_list := _,
    F_law_list := F_law_list,
    g_law_list := PySem.W.mg_of X G a_law_list,
    b_law_list := b_law_list,
    a_law_odd := _,
    d_law_odd := _,
    F_law_odd := F_law_odd,
    g_law_odd := PySem.W.mg_of X G a_law_odd,
    b_law_odd := b_law_odd,
    a_is_letters := _,
    d_is_letters := _,
    F_is_letters := F_is_letters,
    g_is_letters := PySem.W.mg_of X G a_is_letters,
    b_is_letters := b_is_letters,
    a_is_word := _,
    d_is_word := _,
    F_is_word := F_is_word,
    g_is_word := PySem.W.mg_of X G a_is_word,
    b_is_word := b_is_word,
    a_check_word := _,
    d_check_word := _,
    F_check_word := F_check_word,
    g_check_word := PySem.W.mg_of X G a_check_word,
    b_check_word := b_check_word,
    a_check_many := _,
    d_check_many := _,
    F_check_many := F_check_many,
    g_check_many := PySem.W.mg_of X G a_check_many,
    b_check_many := b_check_many,
    a_root := _,
    d_root := _,
    F_root := F_root,
    g_root := PySem.W.mg_of X G a_root,
    b_root := b_root,
    a_exponent := _,
    d_exponent := _,
    F_exponent := F_exponent,
    g_exponent := PySem.W.mg_of X G a_exponent,
    b_exponent := b_exponent,
    a_is_primitive := _,
    d_is_primitive := _,
    F_is_primitive := F_is_primitive,
    g_is_primitive := PySem.W.mg_of X G a_is_primitive,
    b_is_primitive := b_is_primitive,
    a_commute := _,
    d_commute := _,
    F_commute := F_commute,
    g_commute := PySem.W.mg_of X G a_commute,
    b_commute := b_commute,
    a_common_root := _,
    d_common_root := _,
    F_common_root := F_common_root,
    g_common_root := PySem.W.mg_of X G a_common_root,
    b_common_root := b_common_root,
    a_law_written := _,
    d_law_written := _,
    F_law_written := F_law_written,
    g_law_written := PySem.W.mg_of X G a_law_written,
    b_law_written := b_law_written,
    a_law_root := _,
    d_law_root := _,
    F_law_root := F_law_root,
    g_law_root := PySem.W.mg_of X G a_law_root,
    b_law_root := b_law_root,
    a_law_shared := _,
    d_law_shared := _,
    F_law_shared := F_law_shared,
    g_law_shared := PySem.W.mg_of X G a_law_shared,
    b_law_shared := b_law_shared,
    a_law_word_right := _,
    d_law_word_right := _,
    F_law_word_right := F_law_word_right,
    g_law_word_right := PySem.W.mg_of X G a_law_word_right,
    b_law_word_right := b_law_word_right,
    a_law_pair_right := _,
    d_law_pair_right := _,
    F_law_pair_right := F_law_pair_right,
    g_law_pair_right := PySem.W.mg_of X G a_law_pair_right,
    b_law_pair_right := b_law_pair_right,
    a_law_list_right := _,
    d_law_list_right := _,
    F_law_list_right := F_law_list_right,
    g_law_list_right := PySem.W.mg_of X G a_law_list_right,
    b_law_list_right := b_law_list_right,
    a_law_told := _,
    d_law_told := _,
    F_law_told := F_law_told,
    g_law_told := PySem.W.mg_of X G a_law_told,
    b_law_told := b_law_told,
    a_law_refuses := _,
    d_law_refuses := _,
    F_law_refuses := F_law_refuses,
    g_law_refuses := PySem.W.mg_of X G a_law_refuses,
    b_law_refuses := b_law_refuses,
    a_law_refuses_first := _,
    d_law_refuses_first := _,
    F_law_refuses_first := F_law_refuses_first,
    g_law_refuses_first := PySem.W.mg_of X G a_law_refuses_first,
    b_law_refuses_first := b_law_refuses_first,
    a_law := _,
    d_law := _,
    F_law := F_law,
    g_law := PySem.W.mg_of X G a_law,
    b_law := b_law,
    k_root_0 := kbn_of (n := 0) (ks := ["word"]) (ps := ["word"]) [0] F_root (fun _ _ _ _ _ _ us ws h1 h2 => match us, ws, h1, h2 with | [], [_], _, _ => rfl),
    k_exponent_1 := kbn_of (n := 0) (ks := ["word"]) (ps := ["word"]) [0] F_exponent (fun _ _ _ _ _ _ us ws h1 h2 => match us, ws, h1, h2 with | [], [_], _, _ => rfl),
    k_is_primitive_2 := kbn_of (n := 0) (ks := ["word"]) (ps := ["word"]) [0] F_is_primitive (fun _ _ _ _ _ _ us ws h1 h2 => match us, ws, h1, h2 with | [], [_], _, _ => rfl),
    k_commute_3 := kbn_of (n := 0) (ks := ["second", "first"]) (ps := ["first", "second"]) [1, 0] F_commute (fun _ _ _ _ _ _ us ws h1 h2 => match us, ws, h1, h2 with | [], [_, _], _, _ => rfl),
    k_common_root_4 := kbn_of (n := 0) (ks := ["words"]) (ps := ["words"]) [0] F_common_root (fun _ _ _ _ _ _ us ws h1 h2 => match us, ws, h1, h2 with | [], [_], _, _ => rfl),
    z_ValueError := PySem.W.mg_none_of X G z_ValueError,
    z_abs := PySem.W.mg_none_of X G z_abs,
    z_bool := PySem.W.mg_none_of X G z_bool,
    z_int := PySem.W.mg_none_of X G z_int,
    z_isinstance := PySem.W.mg_none_of X G z_isinstance,
    z_len := PySem.W.mg_none_of X G z_len,
    z_list := PySem.W.mg_none_of X G z_list,
    z_max := PySem.W.mg_none_of X G z_max,
    z_min := PySem.W.mg_none_of X G z_min,
    z_range := PySem.W.mg_none_of X G z_range,
    z_str := PySem.W.mg_none_of X G z_str,
    z_tuple := PySem.W.mg_none_of X G z_tuple,
    C_BadWord := C_BadWord,
    I_BadWord := I_BadWord,
    D_BadWord := _,
    x_BadWord := fun {base} => ⟨PySem.W.mg_of X G a_BadWord, T_BadWord, i_BadWord, t_BadWord, ok_ini_BadWord F_BadWord T_BadWord nb_BadWord, b_BadWord, ⟨ga_BadWord, gg_BadWord, eC_BadWord, hC_BadWord, ha_BadWord, hn0, ht0, hm_BadWord⟩, ⟨ga_BadWord, gg_BadWord, eC_BadWord, hC_BadWord⟩, nb_BadWord⟩,
    C_TooMany := C_TooMany,
    I_TooMany := I_TooMany,
    D_TooMany := _,
    x_TooMany := fun {base} => ⟨PySem.W.mg_of X G a_TooMany, T_TooMany, i_TooMany, t_TooMany, ok_ini_TooMany F_TooMany T_TooMany nb_TooMany, b_TooMany, ⟨ga_TooMany, gg_TooMany, eC_TooMany, hC_TooMany, ha_TooMany, hn0, ht0, hm_TooMany⟩, ⟨ga_TooMany, gg_TooMany, eC_TooMany, hC_TooMany⟩, nb_TooMany⟩,
    gC_BadWord := PySem.W.mg_of X G a_BadWord,
    gC_TooMany := PySem.W.mg_of X G a_TooMany,
    C_WordError := C_WordError,
    gC_WordError := PySem.W.mg_of X G a_WordError,
    q_BadWord_BadWord := kit_ref hC_BadWord tC_BadWord S0_BadWord S0_BadWord,
    q_TooMany_BadWord := kit_ref hC_BadWord tC_BadWord S_TooMany_BadWord S0_TooMany,
    q_BadWord_TooMany := kit_ref hC_TooMany tC_TooMany S_BadWord_TooMany S0_BadWord,
    q_TooMany_TooMany := kit_ref hC_TooMany tC_TooMany S0_TooMany S0_TooMany,
    q_BadWord_ValueError := kit_typ (by decide +kernel) S_BadWord_ValueError,
    q_TooMany_ValueError := kit_typ (by decide +kernel) S_TooMany_ValueError,
    q_BadWord_WordError := kit_ref hC_WordError tC_WordError S_BadWord_WordError S0_BadWord,
    q_TooMany_WordError := kit_ref hC_WordError tC_WordError S_TooMany_WordError S0_TooMany,
    v_BadWord_BadWord := PySem.W.exm_ref eC_BadWord hC_BadWord tC_BadWord S0_BadWord,
    v_TooMany_BadWord := PySem.W.exm_ref eC_BadWord hC_BadWord tC_BadWord S_TooMany_BadWord,
    v_BadWord_TooMany := PySem.W.exm_ref eC_TooMany hC_TooMany tC_TooMany S_BadWord_TooMany,
    v_TooMany_TooMany := PySem.W.exm_ref eC_TooMany hC_TooMany tC_TooMany S0_TooMany }
  exact ⟨PySem.W.fnOf "law" "law" (defArgs s_law) (defBody s_law) (defScope s_law) .none kV_law dc_law pm_law an_law cd_law ct_law, fun s v => .of_eq rfl, fun base _ _ => (ok_law (base := base) T).imp fun vs H Q E h => spLaw_sp h⟩
end
theorem walk {l : PySem.W.OpenLaw} {q : Program} {loose : List Str} {XP : (Str → Option Value) → Heap → Prop} {YP : World → Heap → Prop} {d : DefRec} {K : Params → PySem.W.Frag} (hn : l.most = some 63) (hdf : d.params.defaults = [])
    (hY : ∀ (w : World) (h : Heap), YP w h → (K w.params).In h)
    (F : ∀ (w : World) (mg : Str → Option Value) (fa : Addr) (h : Heap), (K w.params).In h → h.Ns mainGlobals mg → mg d.name = some (.ref fa) →
      ∃ fd : FuncData, (∀ (s : Shared) (u : Value), BindsTo s fd ⟨[u], []⟩ [("script", u)]) ∧ ∀ base : Heap, (K w.params).In base → base.Ns mainGlobals mg → FnOk l.prog w (K w.params) mg base (L2N.CX l.prog w) 9 fa fd ["script"] (spLaw m_law (K w.params))) :
    PySem.W.WalkO q loose XP YP l.row.toRowW d [] (fun f vs => PySem.call f vs) :=
  L2.walk_of (n := 63) (k := 9) (x := "script") (CX := fun w => L2N.CX l.prog w) (sp := fun w => spLaw m_law (K w.params)) hn (by decide) hdf ⟨rfl, by decide, by decide⟩ hY F (fun w H a ns hl _ hS => spLaw_of law_all (K w.params) H a ns hl hS) fun _ _ _ _ _ z => no_CX z
end G
open PySem PySem.W PyProof.Rows
set_option maxRecDepth 100000 in
set_option maxHeartbeats 0 in
theorem PySem.Challenge.cw_wordruns_k01_roots_and_commuting_holds : PySem.Challenge.rw_wordruns_k01_roots_and_commuting.Holds := by
  w_on; o_law; k_head; (case hw => w_witness2)
  k_fill
  refine G.walk (l := PySem.Challenge.rw_wordruns_k01_roots_and_commuting) rfl rfl (fun w h Y => PySem.W.kIn_of Y) ?F
  case F =>
    intro w mg fa h KX GG hmg
    refine' G.all_mk KX GG hmg ?a_law_mixed ?l_law_mixed ?c_law_mixed ?k_law_mixed ?a_law_pool ?l_law_pool ?c_law_pool ?k_law_pool ?a_law_draw ?l_law_draw ?c_law_draw ?k_law_draw ?a_law_word ?l_law_word ?c_law_word ?k_law_word ?a_law_first ?l_law_first ?c_law_first ?k_law_first ?a_law_second ?l_law_second ?c_law_second ?k_law_second ?a_law_list ?l_law_list ?c_law_list ?k_law_list ?a_law_odd ?l_law_odd ?c_law_odd ?k_law_odd ?a_is_letters ?l_is_letters ?c_is_letters ?k_is_letters ?a_is_word ?l_is_word ?c_is_word ?k_is_word ?a_check_word ?l_check_word ?c_check_word ?k_check_word ?a_check_many ?l_check_many ?c_check_many ?k_check_many ?a_root ?l_root ?c_root ?k_root ?a_exponent ?l_exponent ?c_exponent ?k_exponent ?a_is_primitive ?l_is_primitive ?c_is_primitive ?k_is_primitive ?a_commute ?l_commute ?c_commute ?k_commute ?a_common_root ?l_common_root ?c_common_root ?k_common_root ?a_law_written ?l_law_written ?c_law_written ?k_law_written ?a_law_root ?l_law_root ?c_law_root ?k_law_root ?a_law_shared ?l_law_shared ?c_law_shared ?k_law_shared ?a_law_word_right ?l_law_word_right ?c_law_word_right ?k_law_word_right ?a_law_pair_right ?l_law_pair_right ?c_law_pair_right ?k_law_pair_right ?a_law_list_right ?l_law_list_right ?c_law_list_right ?k_law_list_right ?a_law_told ?l_law_told ?c_law_told ?k_law_told ?a_law_refuses ?l_law_refuses ?c_law_refuses ?k_law_refuses ?a_law_refuses_first ?l_law_refuses_first ?c_law_refuses_first ?k_law_refuses_first ?a_law ?l_law ?c_law ?k_law ?hn0 ?ht0 ?a_BadWord ?x_BadWord ?rv_BadWord ?sa_BadWord ?ga_BadWord ?gg_BadWord ?nb_BadWord ?i_BadWord ?t_BadWord ?l_BadWord ?c_BadWord ?ki_BadWord ?kC_BadWord ?eC_BadWord ?tC_BadWord ?hC_BadWord ?ha_BadWord ?hm_BadWord ?a_TooMany ?x_TooMany ?rv_TooMany ?sa_TooMany ?ga_TooMany ?gg_TooMany ?nb_TooMany ?i_TooMany ?t_TooMany ?l_TooMany ?c_TooMany ?ki_TooMany ?kC_TooMany ?eC_TooMany ?tC_TooMany ?hC_TooMany ?ha_TooMany ?hm_TooMany ?a_WordError ?eC_WordError ?tC_WordError ?hC_WordError ?S0_BadWord ?S0_TooMany ?S_TooMany_BadWord ?S_BadWord_TooMany ?S_BadWord_ValueError ?S_TooMany_ValueError ?S_BadWord_WordError ?S_TooMany_WordError ?z_ValueError ?z_abs ?z_bool ?z_int ?z_isinstance ?z_len ?z_list ?z_max ?z_min ?z_range ?z_str ?z_tuple
    (case a_law_mixed => k_is)
    (case l_law_mixed => k_is)
    (case c_law_mixed => k_is)
    (case k_law_mixed => k_is)
    (case a_law_pool => k_is)
    (case l_law_pool => k_is)
    (case c_law_pool => k_is)
    (case k_law_pool => k_is)
    (case a_law_draw => k_is)
    (case l_law_draw => k_is)
    (case c_law_draw => k_is)
    (case k_law_draw => k_is)
    (case a_law_word => k_is)
    (case l_law_word => k_is)
    (case c_law_word => k_is)
    (case k_law_word => k_is)
    (case a_law_first => k_is)
    (case l_law_first => k_is)
    (case c_law_first => k_is)
    (case k_law_first => k_is)
    (case a_law_second => k_is)
    (case l_law_second => k_is)
    (case c_law_second => k_is)
    (case k_law_second => k_is)
    (case a_law_list => k_is)
    (case l_law_list => k_is)
    (case c_law_list => k_is)
    (case k_law_list => k_is)
    (case a_law_odd => k_is)
    (case l_law_odd => k_is)
    (case c_law_odd => k_is)
    (case k_law_odd => k_is)
    (case a_is_letters => k_is)
    (case l_is_letters => k_is)
    (case c_is_letters => k_is)
    (case k_is_letters => k_is)
    (case a_is_word => k_is)
    (case l_is_word => k_is)
    (case c_is_word => k_is)
    (case k_is_word => k_is)
    (case a_check_word => k_is)
    (case l_check_word => k_is)
    (case c_check_word => k_is)
    (case k_check_word => k_is)
    (case a_check_many => k_is)
    (case l_check_many => k_is)
    (case c_check_many => k_is)
    (case k_check_many => k_is)
    (case a_root => k_is)
    (case l_root => k_is)
    (case c_root => k_is)
    (case k_root => k_is)
    (case a_exponent => k_is)
    (case l_exponent => k_is)
    (case c_exponent => k_is)
    (case k_exponent => k_is)
    (case a_is_primitive => k_is)
    (case l_is_primitive => k_is)
    (case c_is_primitive => k_is)
    (case k_is_primitive => k_is)
    (case a_commute => k_is)
    (case l_commute => k_is)
    (case c_commute => k_is)
    (case k_commute => k_is)
    (case a_common_root => k_is)
    (case l_common_root => k_is)
    (case c_common_root => k_is)
    (case k_common_root => k_is)
    (case a_law_written => k_is)
    (case l_law_written => k_is)
    (case c_law_written => k_is)
    (case k_law_written => k_is)
    (case a_law_root => k_is)
    (case l_law_root => k_is)
    (case c_law_root => k_is)
    (case k_law_root => k_is)
    (case a_law_shared => k_is)
    (case l_law_shared => k_is)
    (case c_law_shared => k_is)
    (case k_law_shared => k_is)
    (case a_law_word_right => k_is)
    (case l_law_word_right => k_is)
    (case c_law_word_right => k_is)
    (case k_law_word_right => k_is)
    (case a_law_pair_right => k_is)
    (case l_law_pair_right => k_is)
    (case c_law_pair_right => k_is)
    (case k_law_pair_right => k_is)
    (case a_law_list_right => k_is)
    (case l_law_list_right => k_is)
    (case c_law_list_right => k_is)
    (case k_law_list_right => k_is)
    (case a_law_told => k_is)
    (case l_law_told => k_is)
    (case c_law_told => k_is)
    (case k_law_told => k_is)
    (case a_law_refuses => k_is)
    (case l_law_refuses => k_is)
    (case c_law_refuses => k_is)
    (case k_law_refuses => k_is)
    (case a_law_refuses_first => k_is)
    (case l_law_refuses_first => k_is)
    (case c_law_refuses_first => k_is)
    (case k_law_refuses_first => k_is)
    (case a_law => k_is)
    (case l_law => k_is)
    (case c_law => k_is)
    (case k_law => k_is)
    (case hn0 => k_is)
    (case ht0 => k_is)
    (case a_BadWord => k_is)
    (case x_BadWord => k_is)
    (case rv_BadWord => rfl)
    (case sa_BadWord => k_is)
    (case ga_BadWord => k_is)
    (case gg_BadWord => k_is)
    (case nb_BadWord => k_is)
    (case i_BadWord => k_is)
    (case t_BadWord => k_is)
    (case l_BadWord => k_is)
    (case c_BadWord => k_is)
    (case ki_BadWord => k_is)
    (case kC_BadWord => k_is)
    (case eC_BadWord => k_is)
    (case tC_BadWord => k_is)
    (case hC_BadWord => k_is)
    (case ha_BadWord => k_is)
    (case hm_BadWord => k_is)
    (case a_TooMany => k_is)
    (case x_TooMany => k_is)
    (case rv_TooMany => rfl)
    (case sa_TooMany => k_is)
    (case ga_TooMany => k_is)
    (case gg_TooMany => k_is)
    (case nb_TooMany => k_is)
    (case i_TooMany => k_is)
    (case t_TooMany => k_is)
    (case l_TooMany => k_is)
    (case c_TooMany => k_is)
    (case ki_TooMany => k_is)
    (case kC_TooMany => k_is)
    (case eC_TooMany => k_is)
    (case tC_TooMany => k_is)
    (case hC_TooMany => k_is)
    (case ha_TooMany => k_is)
    (case hm_TooMany => k_is)
    (case a_WordError => k_is)
    (case eC_WordError => k_is)
    (case tC_WordError => k_is)
    (case hC_WordError => k_is)
    (case S0_BadWord => first | rfl | k_is)
    (case S0_TooMany => first | rfl | k_is)
    (case S_TooMany_BadWord => k_is)
    (case S_BadWord_TooMany => k_is)
    (case S_BadWord_ValueError => k_is)
    (case S_TooMany_ValueError => k_is)
    (case S_BadWord_WordError => k_is)
    (case S_TooMany_WordError => k_is)
    (case z_ValueError => k_is)
    (case z_abs => k_is)
    (case z_bool => k_is)
    (case z_int => k_is)
    (case z_isinstance => k_is)
    (case z_len => k_is)
    (case z_list => k_is)
    (case z_max => k_is)
    (case z_min => k_is)
    (case z_range => k_is)
    (case z_str => k_is)
    (case z_tuple => k_is)
