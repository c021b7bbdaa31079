import PyProof.Rows.All
import Wide.All
import OpenK.AllK
import Wide.FinOn
import HandS.ForMost
import HandS.ForSpec
import HandS.CallSlots
import HandS.ExcInit
import HandS.ExcIs
import HandS.ExcField
import HandS.HotCalls
import HandS.SortInts
import HandS.IsInst
import HandS.Defaults
import HandS.Wide
import HandS.Flow
import PyProof.Rows.StrRevDown
import HandS.Conv
import HandS.Style
import HandS.NamedTupSort
import HandS.StrMore
import HandS.Star
import KE.GoesEnum
import HandS.Replace
import KE.DataMinMax
import HandS.RaiseMore
import HandS.SetFor
import HandS.Gcd
import HandS.SortKw
import KE.DatumOrd
import HandS.Dict
import HandS.WordsDict
import HandS.GenYield
import HandS.GenList
import HandS.Deep
import HandS.RevRange
import HandS.Text
import PyProof.StrLawsIn
import HandS.Property
import HandS.ClsMeth
import HandS.TupAny
import HandS.Rev
import PySem.Challenge.RW_wordruns_k24_polynomials
set_option Elab.async false
set_option linter.all false
set_option maxRecDepth 100000
set_option maxHeartbeats 4000000
/-! A small typed layer over HandS: results, representations, owned data, environments. -/
namespace M
open PySem PySem.Spec PyProof.Rows L2

/-! ### results of a mirrored def -/
structure Exn where
  cls : Str
  fs : List (Str × V)
  deriving DecidableEq
inductive Res (α : Type) : Type where
  | ok (a : α) | exc (e : Exn) | bad
  deriving DecidableEq
def Res.bind {α β : Type} (m : Res α) (f : α → Res β) : Res β := match m with | .ok a => f a | .exc e => .exc e | .bad => .bad
def wp {α : Type} (m : Res α) (P : α → Prop) (X : Exn → Prop) : Prop := match m with | .ok a => P a | .exc e => X e | .bad => False
@[simp] theorem Res.bind_ok {α β : Type} (a : α) (f : α → Res β) : (Res.ok a).bind f = f a := rfl
@[simp] theorem Res.bind_exc {α β : Type} (e : Exn) (f : α → Res β) : (Res.exc e).bind f = .exc e := rfl
@[simp] theorem Res.bind_bad {α β : Type} (f : α → Res β) : (Res.bad : Res α).bind f = .bad := rfl
theorem Res.bind_assoc {α β γ : Type} (m : Res α) (f : α → Res β) (g : β → Res γ) : (m.bind f).bind g = m.bind fun a => (f a).bind g := by cases m <;> rfl
theorem wp_bind {α β : Type} {m : Res α} {f : α → Res β} {P : β → Prop} {X : Exn → Prop} : wp (m.bind f) P X ↔ wp m (fun a => wp (f a) P X) X := by cases m <;> exact Iff.rfl
theorem wp_mono {α : Type} {m : Res α} {P P' : α → Prop} {X X' : Exn → Prop} (h : wp m P X) (hP : ∀ a, P a → P' a) (hX : ∀ e, X e → X' e) : wp m P' X' := by
  cases m with
  | ok a => exact hP a h
  | exc e => exact hX e h
  | bad => exact h
theorem wp_ok {α : Type} {a : α} {P : α → Prop} {X : Exn → Prop} (h : P a) : wp (.ok a) P X := h

/-- a value whose making is not looked at -/
noncomputable def clo {α : Type} (r : α) : α := Classical.choose (⟨r, rfl⟩ : ∃ x, x = r)
theorem clo_eq {α : Type} (r : α) : clo r = r := Classical.choose_spec (⟨r, rfl⟩ : ∃ x, x = r)

/-! ### representations -/
class Rep (α : Type) where
  rp : PySem.W.Frag → Hp → V → α → Prop
  mono : ∀ {K : PySem.W.Frag} {I J : Hp} {v : V} {a : α}, Same I J → rp K I v a → rp K J v a
/-- a value that needs no heap -/
class Sca (α : Type) where
  enc : α → V
  okv : α → Prop
instance (priority := high) scaInt : Sca Int := ⟨V.int, fun _ => True⟩
instance (priority := high) scaBool : Sca Bool := ⟨V.bl, fun _ => True⟩
instance (priority := high) scaUnit : Sca Unit := ⟨fun _ => V.non, fun _ => True⟩
/-- the greatest length of a list, a text -/
def line : Nat := 16777216
theorem line_eq : line = sizeLine := by rw [sizeLine_eq]; rfl
/-- a text: its codes -/
abbrev Tx : Type := List Nat
def mkS (w : Tx) : Str := ⟨List.toArray w⟩
instance (priority := high) scaTx : Sca Tx := ⟨fun w => V.str (mkS w), fun w => w.length ≤ line⟩
instance (priority := high) repSca {α : Type} [Sca α] : Rep α := ⟨fun _ _ v a => v = Sca.enc a ∧ Sca.okv a, fun _ h => h⟩
theorem Paired.monoR {α : Type} {f g : V → α → Prop} (h : ∀ v a, f v a → g v a) : ∀ {vs : List V} {xs : List α}, Paired f vs xs → Paired g vs xs
  | _, _, .nil => .nil
  | _, _, .cons r t => .cons (h _ _ r) (Paired.monoR h t)
theorem same_seqT {K : PySem.W.Frag} {H H' : Hp} {a : Addr} {xs : List V} (e : Same H H') (h : SqT K H a xs) : SqT K H' a xs := by
  rcases h with h | h
  · rcases h with h | ⟨o, h⟩
    · exact .inl (.inl (e _ _ h))
    · exact .inl (.inr ⟨o, e _ _ h⟩)
  · exact .inr h
/-- a list -/
instance repList {α : Type} [Rep α] : Rep (List α) where
  rp K I v xs := ∃ a vs, v = .ref a ∧ I a = some (.lst vs) ∧ Paired (fun v x => Rep.rp K I v x) vs xs
  mono := fun e ⟨a, vs, e1, h, p⟩ => ⟨a, vs, e1, e _ _ h, Paired.monoR (fun _ _ q => Rep.mono e q) p⟩
/-- the law's script -/
structure Scr where
  l : List Int
instance repScr : Rep Scr where
  rp K I v x := ∃ a, v = .ref a ∧ SqL K I a (x.l.map V.int)
  mono := fun e ⟨a, e1, h⟩ => ⟨a, e1, e.seq h⟩
/-- a tuple of any length, of one kind -/
structure TupL (α : Type) where
  l : List α
instance repTupL {α : Type} [Rep α] : Rep (TupL α) where
  rp K I v xs := ∃ a vs, v = .ref a ∧ SqT K I a vs ∧ Paired (fun v x => Rep.rp K I v x) vs xs.l
  mono := fun e ⟨a, vs, e1, h, p⟩ => ⟨a, vs, e1, same_seqT e h, Paired.monoR (fun _ _ q => Rep.mono e q) p⟩
/-- a pair, a triple -/
instance repPair {α β : Type} [Rep α] [Rep β] : Rep (α × β) where
  rp K I v x := ∃ a v1 v2, v = .ref a ∧ SqT K I a [v1, v2] ∧ Rep.rp K I v1 x.1 ∧ Rep.rp K I v2 x.2
  mono := fun e ⟨a, v1, v2, e1, h, p, q⟩ => ⟨a, v1, v2, e1, same_seqT e h, Rep.mono e p, Rep.mono e q⟩
structure T3 (α β γ : Type) where
  a : α
  b : β
  c : γ
  deriving DecidableEq
instance repT3 {α β γ : Type} [Rep α] [Rep β] [Rep γ] : Rep (T3 α β γ) where
  rp K I v x := ∃ a v1 v2 v3, v = .ref a ∧ SqT K I a [v1, v2, v3] ∧ Rep.rp K I v1 x.a ∧ Rep.rp K I v2 x.b ∧ Rep.rp K I v3 x.c
  mono := fun e ⟨a, v1, v2, v3, e1, h, p, q, r⟩ => ⟨a, v1, v2, v3, e1, same_seqT e h, Rep.mono e p, Rep.mono e q, Rep.mono e r⟩
instance repOpt {α : Type} [Rep α] : Rep (Option α) where
  rp K I v x := match x with | none => v = .non | some y => Rep.rp K I v y
  mono := fun {K I J v x} e h => by
    cases x with
    | none => exact h
    | some y => exact Rep.mono (α := α) e h

/-! ### owned data: it may be changed; fp: its addresses -/
class Own (α : Type) where
  ow : PySem.W.Frag → List Addr → Hp → Hp → V → α → Prop
  mono : ∀ {K : PySem.W.Frag} {fp : List Addr} {I H I' H' : Hp} {v : V} {a : α}, Same I I' → (∀ b ∈ fp, H' b = H b) → ow K fp I H v a → ow K fp I' H' v a
instance ownList {α : Type} [Rep α] : Own (List α) where
  ow K fp I H v xs := ∃ p vs, v = .ref p ∧ fp = [p] ∧ H p = some (.lst vs) ∧ Paired (fun v x => Rep.rp K I v x) vs xs
  mono := fun e k ⟨p, vs, e1, e2, h, q⟩ => ⟨p, vs, e1, e2, by subst e2; rw [k p (by simp)]; exact h, Paired.monoR (fun _ _ z => Rep.mono e z) q⟩

/-! ### environments -/
inductive Cell : Type 1 where
  | any
  | im {α : Type} [Rep α] (a : α)
  | own {α : Type} [Own α] (a : α) (pn : Option V := none)
def CellR (K : PySem.W.Frag) (I H : Hp) (fp : List Addr) (o : Option V) (c : Cell) : Prop := match c with
  | .any => fp = []
  | @Cell.im α _ a => fp = [] ∧ ∃ v, o = some v ∧ Rep.rp (α := α) K I v a
  | @Cell.own α _ a pn => ∃ v, o = some v ∧ (∀ w, pn = some w → v = w) ∧ Own.ow (α := α) K fp I H v a
abbrev Ent := Option V × Cell
def Ents (K : PySem.W.Frag) (I H : Hp) : List Ent → List (List Addr) → Prop
  | [], [] => True
  | e :: es, f :: fs => CellR K I H f e.1 e.2 ∧ Ents K I H es fs
  | _, _ => False
def EnvL (K : PySem.W.Frag) (I H : Hp) (es : List Ent) : Prop :=
  Same I H ∧ ∃ fs, Ents K I H es fs ∧ fs.flatten.Nodup ∧ ∀ a ∈ fs.flatten, I a = none ∧ H a ≠ none

section
variable {K : PySem.W.Frag} {I H I' H' : Hp} {e e' : Ent} {es es' : List Ent} {o : Option V} {v : V} {c : Cell}
theorem Ents.perm (p : es.Perm es') : ∀ {fs : List (List Addr)}, Ents K I H es fs → ∃ fs', fs.Perm fs' ∧ Ents K I H es' fs' := by
  induction p with
  | nil => exact fun {fs} h => ⟨fs, .refl _, h⟩
  | cons x _ ih =>
    intro fs h
    cases fs with
    | nil => exact h.elim
    | cons f fs =>
      obtain ⟨fs', p', h'⟩ := ih h.2
      exact ⟨f :: fs', p'.cons f, h.1, h'⟩
  | swap x y l =>
    intro fs h
    cases fs with
    | nil => exact h.elim
    | cons f fs =>
      cases fs with
      | nil => exact h.2.elim
      | cons g fs => exact ⟨g :: f :: fs, .swap _ _ _, h.2.1, h.1, h.2.2⟩
  | trans _ _ ih1 ih2 =>
    intro fs h
    obtain ⟨f1, p1, h1⟩ := ih1 h
    obtain ⟨f2, p2, h2⟩ := ih2 h1
    exact ⟨f2, p1.trans p2, h2⟩
theorem EnvL.perm (p : es.Perm es') (h : EnvL K I H es) : EnvL K I H es' := by
  obtain ⟨s, fs, h1, h2, h3⟩ := h
  obtain ⟨fs', p', h'⟩ := Ents.perm p h1
  have q := p'.flatten
  exact ⟨s, fs', h', q.nodup_iff.mp h2, fun a ha => h3 a (q.mem_iff.mpr ha)⟩
theorem EnvL.tail (h : EnvL K I H (e :: es)) : EnvL K I H es := by
  obtain ⟨s, fs, h1, h2, h3⟩ := h
  cases fs with
  | nil => exact h1.elim
  | cons f fs =>
    rw [List.flatten_cons] at h2 h3
    exact ⟨s, fs, h1.2, (List.nodup_append.mp h2).2.1, fun a ha => h3 a (List.mem_append_right _ ha)⟩
theorem EnvL.any (h : EnvL K I H es) : EnvL K I H ((o, .any) :: es) := by
  obtain ⟨s, fs, h1, h2, h3⟩ := h
  exact ⟨s, [] :: fs, ⟨rfl, h1⟩, h2, h3⟩
theorem EnvL.im {α : Type} [Rep α] {a : α} (h : EnvL K I H es) (r : Rep.rp K I v a) : EnvL K I H ((some v, .im a) :: es) := by
  obtain ⟨s, fs, h1, h2, h3⟩ := h
  exact ⟨s, [] :: fs, ⟨⟨rfl, v, rfl, r⟩, h1⟩, h2, h3⟩
theorem EnvL.get {α : Type} [Rep α] {a : α} (h : EnvL K I H ((o, .im a) :: es)) : ∃ v, o = some v ∧ Rep.rp K I v a := by
  obtain ⟨s, fs, h1, _⟩ := h
  cases fs with
  | nil => exact h1.elim
  | cons f fs => exact h1.1.2
theorem EnvL.mem {α : Type} [Rep α] {a : α} (h : EnvL K I H es) (m : (o, Cell.im a) ∈ es) : ∃ v, o = some v ∧ Rep.rp K I v a := by
  obtain ⟨l1, l2, e⟩ := List.append_of_mem m
  subst e
  exact (h.perm List.perm_middle).get
/-- what changes at most: new things, and what is owned by nobody here -/
structure Grow (I H I' H' : Hp) : Prop where
  im : Same I I'
  sub : Same I' H'
  old : ∀ a, H a ≠ none → I' a = I a
  keep : Same H H'
theorem Grow.refl (h : Same I H) : Grow I H I H := ⟨Same.refl _, h, fun _ _ => rfl, Same.refl _⟩
theorem Ents.mono (hI : Same I I') : ∀ {es : List Ent} {fs : List (List Addr)}, (∀ a ∈ fs.flatten, H' a = H a) → Ents K I H es fs → Ents K I' H' es fs
  | [], [], _, _ => trivial
  | [], _ :: _, _, h => h.elim
  | _ :: _, [], _, h => h.elim
  | e :: es, f :: fs, k, h => by
    rw [List.flatten_cons] at k
    refine ⟨?_, Ents.mono hI (fun a ha => k a (List.mem_append_right _ ha)) h.2⟩
    have h1 := h.1
    obtain ⟨o, c⟩ := e
    cases c with
    | any => exact h1
    | im a =>
      obtain ⟨e1, v, e2, r⟩ := h1
      exact ⟨e1, v, e2, Rep.mono hI r⟩
    | own a pn =>
      obtain ⟨v, e2, e3, r⟩ := h1
      exact ⟨v, e2, e3, Own.mono hI (fun b hb => k b (List.mem_append_left _ hb)) r⟩
theorem EnvL.grow (g : Grow I H I' H') (h : EnvL K I H es) : EnvL K I' H' es := by
  obtain ⟨s, fs, h1, h2, h3⟩ := h
  have k : ∀ a ∈ fs.flatten, H' a = H a := fun a ha => by
    cases e : H a with
    | none => exact absurd e (h3 a ha).2
    | some o => exact g.keep a o e
  refine ⟨g.sub, fs, Ents.mono g.im k h1, h2, fun a ha => ⟨?_, ?_⟩⟩
  · rw [g.old a (h3 a ha).2]
    exact (h3 a ha).1
  · rw [k a ha]
    exact (h3 a ha).2
/-- a new immutable object -/
theorem Grow.newI {p : Addr} {u : HO} (s : Same I H) (hp : H p = none) : Grow I H (upd I p u) (upd H p u) := by
  have hi : I p = none := by
    cases e : I p with
    | none => rfl
    | some o => rw [s p o e] at hp; cases hp
  refine ⟨fun a o e => ?_, fun a o e => ?_, fun a e => ?_, fun a o e => ?_⟩
  · rw [upd_ne (ne_of_none e hi)]; exact e
  · by_cases q : a = p
    · subst q; rw [upd_same] at e ⊢; exact e
    · rw [upd_ne q] at e ⊢; exact s a o e
  · exact upd_ne fun q => e (by rw [q]; exact hp)
  · rw [upd_ne (ne_of_none e hp)]; exact e
/-- a new object that I does not tell -/
theorem Grow.newH {p : Addr} {u : HO} (s : Same I H) (hp : H p = none) : Grow I H I (upd H p u) := by
  refine ⟨Same.refl _, fun a o e => ?_, fun _ _ => rfl, fun a o e => ?_⟩
  · rw [upd_ne (ne_of_none (s a o e) hp)]; exact s a o e
  · rw [upd_ne (ne_of_none e hp)]; exact e
theorem EnvL.none_of (h : EnvL K I H es) {p : Addr} (hp : H p = none) : I p = none := by
  cases e : I p with
  | none => rfl
  | some o => rw [h.1 p o e] at hp; cases hp
theorem EnvL.repin {α : Type} [Own α] {a : α} {pn pn' : Option V} (h : EnvL K I H ((some v, .own a pn) :: es)) (hp : ∀ w, pn' = some w → v = w) : EnvL K I H ((some v, .own a pn') :: es) := by
  obtain ⟨s, fs, h1, h2, h3⟩ := h
  cases fs with
  | nil => exact h1.elim
  | cons f fs =>
    obtain ⟨⟨w, e1, _, q⟩, h1⟩ := h1
    cases e1
    exact ⟨s, f :: fs, ⟨⟨v, rfl, hp, q⟩, h1⟩, h2, h3⟩
theorem EnvL.pin {α : Type} [Own α] {a : α} {pn : Option V} (h : EnvL K I H ((some v, .own a pn) :: es)) : ∀ w, pn = some w → v = w := by
  obtain ⟨s, fs, h1, h2, h3⟩ := h
  cases fs with
  | nil => exact h1.elim
  | cons f fs =>
    obtain ⟨⟨w, e1, e2, q⟩, h1⟩ := h1
    cases e1
    exact e2
/-- a new owned list -/
theorem EnvL.newL {α : Type} [Rep α] {p : Addr} {vs : List V} {xs : List α} (h : EnvL K I H es) (hp : H p = none) (r : Paired (fun v x => Rep.rp K I v x) vs xs) : EnvL K I (upd H p (.lst vs)) ((some (.ref p), .own xs) :: es) := by
  have hi := h.none_of hp
  obtain ⟨s, fs, h1, h2, h3⟩ := h.grow (Grow.newH (u := .lst vs) h.1 hp)
  obtain ⟨_, fs0, h10, h20, h30⟩ := h
  have g := Grow.newH (u := .lst vs) (I := I) ‹_› hp
  refine ⟨s, [p] :: fs0, ⟨⟨.ref p, rfl, (fun _ z => nomatch z), p, vs, rfl, rfl, upd_same, r⟩, Ents.mono (Same.refl _) (fun a ha => upd_ne fun q => (h30 a ha).2 (by rw [q]; exact hp)) h10⟩, ?_, fun a ha => ?_⟩
  · rw [List.flatten_cons]
    refine List.nodup_append.mpr ⟨by simp, h20, fun a ha b hb q => ?_⟩
    have e : a = p := by simpa using ha
    subst e
    subst q
    exact (h30 _ hb).2 hp
  · rw [List.flatten_cons] at ha
    rcases List.mem_append.mp ha with ha | ha
    · have e : a = p := by simpa using ha
      subst e
      exact ⟨hi, by rw [upd_same]; exact fun z => nomatch z⟩
    · exact ⟨(h30 a ha).1, by rw [upd_ne fun q => (h30 a ha).2 (by rw [q]; exact hp)]; exact (h30 a ha).2⟩
/-- an owned list: it is there, it may be changed -/
theorem EnvL.ownL {α : Type} [Rep α] {xs : List α} {pn : Option V} (h : EnvL K I H ((o, .own xs pn) :: es)) : ∃ p vs, o = some (.ref p) ∧ H p = some (.lst vs) ∧ I p = none ∧ Paired (fun v x => Rep.rp K I v x) vs xs ∧
    (∀ {I' H' : Hp}, Grow I H I' H' → ∀ (vs' : List V) {β : Type} [Rep β] (ys : List β), Paired (fun v x => Rep.rp K I' v x) vs' ys → EnvL K I' (upd H' p (.lst vs')) ((o, .own ys pn) :: es)) ∧
    EnvL K (upd I p (.lst vs)) H ((o, .im xs) :: es) := by
  obtain ⟨s, fs, h1, h2, h3⟩ := id h
  cases fs with
  | nil => exact h1.elim
  | cons f fs =>
    obtain ⟨⟨v, e1, e0, p, vs, e2, e3, hp, r⟩, h1⟩ := h1
    dsimp only at e1
    subst e1 e2 e3
    rw [List.flatten_cons] at h2 h3
    have hn := List.nodup_append.mp h2
    have pI := (h3 p (by simp)).1
    have npf : ∀ a ∈ fs.flatten, a ≠ p := fun a ha q => hn.2.2 p (by simp) a ha q.symm
    refine ⟨p, vs, rfl, hp, pI, r, fun {I' H'} g vs' β _ ys r' => ?_, ?_⟩
    · have pI' : I' p = none := by rw [g.old p (by rw [hp]; exact fun z => nomatch z)]; exact pI
      refine ⟨fun a u e => ?_, [p] :: fs, ⟨⟨.ref p, rfl, e0, p, vs', rfl, rfl, upd_same, r'⟩, Ents.mono g.im (fun a ha => ?_) h1⟩, by rw [List.flatten_cons]; exact h2, fun a ha => ?_⟩
      · rw [upd_ne (ne_of_none e pI')]
        exact g.sub a u e
      · rw [upd_ne (npf a ha)]
        cases e : H a with
        | none => exact absurd e (h3 a (List.mem_append_right _ ha)).2
        | some u => exact g.keep a u e
      · rw [List.flatten_cons] at ha
        have q := h3 a ha
        refine ⟨by rw [g.old a q.2]; exact q.1, ?_⟩
        by_cases hap : a = p
        · rw [hap, upd_same]; exact fun z => nomatch z
        · rw [upd_ne hap]
          cases e : H a with
          | none => exact absurd e q.2
          | some u => rw [g.keep a u e]; exact fun z => nomatch z
    · have sI : Same I (upd I p (.lst vs)) := fun a u e => by rw [upd_ne (ne_of_none e pI)]; exact e
      refine ⟨fun a u e => ?_, [] :: fs, ⟨⟨rfl, .ref p, rfl, p, vs, rfl, upd_same, Paired.monoR (fun _ _ z => Rep.mono sI z) r⟩, Ents.mono sI (fun _ _ => rfl) h1⟩, hn.2.1, fun a ha => ?_⟩
      · by_cases hap : a = p
        · rw [hap, upd_same] at e; rw [hap, hp]; exact e
        · rw [upd_ne hap] at e; exact s a u e
      · have q := h3 a (List.mem_append_right _ ha)
        exact ⟨by rw [upd_ne (npf a ha)]; exact q.1, q.2⟩
end
end M
namespace M
open PySem PySem.Spec PyProof.Rows L2

/-! ### environments by slots and a stack -/
theorem perm_at {α : Type _} : ∀ {l : List α} {i : Nat} {e : α}, l[i]? = some e → ∃ r, l.Perm (e :: r) ∧ ∀ e', (l.set i e').Perm (e' :: r)
  | [], _, _, h => by simp at h
  | a :: l, 0, e, h => by
    have q : a = e := by simpa using h
    subst q
    exact ⟨l, .refl _, fun _ => .refl _⟩
  | a :: l, i + 1, e, h => by
    obtain ⟨r, p1, p2⟩ := perm_at (l := l) (i := i) (e := e) (by simpa using h)
    exact ⟨a :: r, (p1.cons a).trans (.swap _ _ _), fun e' => ((p2 e').cons a).trans (.swap _ _ _)⟩
theorem zip_at {α β : Type _} : ∀ {l : List α} {m : List β} {i : Nat} {a : α} {b : β}, l[i]? = some a → m[i]? = some b → (l.zip m)[i]? = some (a, b)
  | [], _, _, _, _, h, _ => by simp at h
  | _ :: _, [], _, _, _, _, h => by simp at h
  | x :: l, y :: m, 0, a, b, h, h' => by
    have e1 : x = a := by simpa using h
    have e2 : y = b := by simpa using h'
    subst e1 e2
    rfl
  | x :: l, y :: m, i + 1, a, b, h, h' => by
    have := zip_at (l := l) (m := m) (i := i) (a := a) (b := b) (by simpa using h) (by simpa using h')
    simpa using this
theorem zip_set {α β : Type _} : ∀ {l : List α} {m : List β} {i : Nat} {a : α} {b : β}, (l.set i a).zip (m.set i b) = (l.zip m).set i (a, b)
  | [], _, _, _, _ => by simp
  | _ :: _, [], _, _, _ => by simp
  | x :: l, y :: m, 0, a, b => by simp
  | x :: l, y :: m, i + 1, a, b => by simp [zip_set (l := l) (m := m) (i := i)]
theorem set_same {α : Type _} : ∀ {l : List α} {i : Nat} {a : α}, l[i]? = some a → l.set i a = l
  | [], _, _, h => by simp at h
  | x :: l, 0, a, h => by
    have e : x = a := by simpa using h
    subst e
    rfl
  | x :: l, i + 1, a, h => by
    have := set_same (l := l) (i := i) (a := a) (by simpa using h)
    simp [this]

def Env (K : PySem.W.Frag) (I H : Hp) (σ : List (Option V)) (Γ : List Cell) (ρ : List (Option V)) (Θ : List Cell) : Prop :=
  σ.length = Γ.length ∧ ρ.length = Θ.length ∧ EnvL K I H (σ.zip Γ ++ ρ.zip Θ)
section
variable {K : PySem.W.Frag} {I H I' H' : Hp} {σ ρ τ : List (Option V)} {Γ Γ' Θ Δ : List Cell} {i : Nat} {o : Option V} {v : V} {c c' : Cell}
theorem Env.slot (E : Env K I H σ Γ ρ Θ) (h : Γ[i]? = some c) : ∃ o, σ[i]? = some o := by
  have hl : i < Γ.length := (List.getElem?_eq_some_iff.mp h).1
  exact ⟨σ[i]'(by rw [E.1]; exact hl), List.getElem?_eq_getElem _⟩
/-- the entry at a slot, alone -/
theorem Env.pick (E : Env K I H σ Γ ρ Θ) (h : Γ[i]? = some c) : ∃ o r, σ[i]? = some o ∧ EnvL K I H ((o, c) :: r) ∧
    ∀ {I' H' : Hp} (o' : Option V) (c' : Cell), EnvL K I' H' ((o', c') :: r) → Env K I' H' (σ.set i o') (Γ.set i c') ρ Θ := by
  obtain ⟨o, ho⟩ := E.slot h
  obtain ⟨r, p1, p2⟩ := perm_at (zip_at ho h)
  refine ⟨o, r ++ ρ.zip Θ, ho, E.2.2.perm (p1.append_right _), fun o' c' q => ⟨by simp [E.1], E.2.1, ?_⟩⟩
  rw [zip_set]
  exact q.perm ((p2 (o', c')).symm.append_right _)
theorem Env.get {α : Type} [Rep α] {a : α} (E : Env K I H σ Γ ρ Θ) (h : Γ[i]? = some (.im a)) : ∃ v, σ[i]? = some (some v) ∧ Rep.rp K I v a := by
  obtain ⟨o, r, ho, e, _⟩ := E.pick h
  obtain ⟨v, e1, q⟩ := e.get
  subst e1
  exact ⟨v, ho, q⟩
theorem Env.sca {α : Type} [Sca α] {a : α} (E : Env K I H σ Γ ρ Θ) (h : Γ[i]? = some (.im a)) : σ[i]? = some (some (Sca.enc a)) ∧ Sca.okv a := by
  obtain ⟨v, ho, q⟩ := E.get h
  have e : v = Sca.enc a ∧ Sca.okv a := q
  rw [ho, e.1]
  exact ⟨rfl, e.2⟩
theorem Env.same (E : Env K I H σ Γ ρ Θ) : Same I H := E.2.2.1
theorem Env.toStack (E : Env K I H σ Γ ρ Θ) (h : EnvL K I' H' ((o, c) :: (σ.zip Γ ++ ρ.zip Θ))) : Env K I' H' σ Γ (o :: ρ) (c :: Θ) :=
  ⟨E.1, by simp [E.2.1], h.perm List.perm_middle.symm⟩
theorem Env.push {α : Type} [Rep α] {a : α} (E : Env K I H σ Γ ρ Θ) (r : Rep.rp K I v a) : Env K I H σ Γ (some v :: ρ) (.im a :: Θ) := E.toStack (E.2.2.im r)
theorem Env.pushS {α : Type} [Sca α] (E : Env K I H σ Γ ρ Θ) {a : α} (ok : Sca.okv a) : Env K I H σ Γ (some (Sca.enc a) :: ρ) (.im a :: Θ) := E.push ⟨rfl, ok⟩
theorem Env.unstack (E : Env K I H σ Γ (o :: ρ) (c :: Θ)) : EnvL K I H ((o, c) :: (σ.zip Γ ++ ρ.zip Θ)) := E.2.2.perm List.perm_middle
theorem Env.len (E : Env K I H σ Γ (o :: ρ) (c :: Θ)) : ρ.length = Θ.length := by have := E.2.1; simpa using this
theorem Env.pop (E : Env K I H σ Γ (o :: ρ) (c :: Θ)) : Env K I H σ Γ ρ Θ := ⟨E.1, E.len, E.unstack.tail⟩
theorem Env.top {α : Type} [Rep α] {a : α} (E : Env K I H σ Γ (o :: ρ) (.im a :: Θ)) : ∃ v, o = some v ∧ Rep.rp K I v a := E.unstack.get
theorem Env.topR {α : Type} [Rep α] {a : α} (E : Env K I H σ Γ (some v :: ρ) (.im a :: Θ)) : Rep.rp K I v a := by
  obtain ⟨w, e, r⟩ := E.top
  cases e
  exact r
theorem Env.grow (g : Grow I H I' H') (E : Env K I H σ Γ ρ Θ) : Env K I' H' σ Γ ρ Θ := ⟨E.1, E.2.1, E.2.2.grow g⟩
theorem Env.newL {α : Type} [Rep α] {p : Addr} {vs : List V} {xs : List α} (E : Env K I H σ Γ ρ Θ) (hp : H p = none) (r : Paired (fun v x => Rep.rp K I v x) vs xs) : Env K I (upd H p (.lst vs)) σ Γ (some (.ref p) :: ρ) (.own xs :: Θ) :=
  E.toStack (E.2.2.newL hp r)
/-- the top of the stack to a slot -/
theorem Env.store (E : Env K I H σ Γ (o :: ρ) (c :: Θ)) (hi : i < Γ.length) (hΓ : Γ.set i c = Γ') : Env K I H (σ.set i o) Γ' ρ Θ := by
  subst hΓ
  have h : Γ[i]? = some Γ[i] := List.getElem?_eq_getElem hi
  obtain ⟨o1, ho⟩ := Env.slot E h
  obtain ⟨r, p1, p2⟩ := perm_at (zip_at ho h)
  refine ⟨by simp [E.1], E.len, ?_⟩
  rw [zip_set]
  have q := E.unstack
  have q2 : EnvL K I H ((o1, Γ[i]) :: ((o, c) :: (r ++ ρ.zip Θ))) := q.perm (((p1.append_right _).cons _).trans (.swap _ _ _))
  exact q2.tail.perm ((p2 (o, c)).symm.append_right (ρ.zip Θ))
theorem Env.setS {α : Type} [Sca α] {a : α} (E : Env K I H σ Γ ρ Θ) (ok : Sca.okv a) (hi : i < Γ.length) (hΓ : Γ.set i (.im a) = Γ') : Env K I H (σ.set i (some (Sca.enc a))) Γ' ρ Θ := (E.pushS ok).store hi hΓ
/-- an owned list at a slot -/
theorem Env.ownAt {α : Type} [Rep α] {xs : List α} {pn : Option V} (E : Env K I H σ Γ ρ Θ) (h : Γ[i]? = some (.own xs pn)) : ∃ p vs, σ[i]? = some (some (.ref p)) ∧ H p = some (.lst vs) ∧ I p = none ∧ Paired (fun v x => Rep.rp K I v x) vs xs ∧
    (∀ {I' H' : Hp}, Grow I H I' H' → ∀ (vs' : List V) {β : Type} [Rep β] (ys : List β), Paired (fun v x => Rep.rp K I' v x) vs' ys → Env K I' (upd H' p (.lst vs')) σ (Γ.set i (.own ys pn)) ρ Θ) ∧
    Env K (upd I p (.lst vs)) H σ (Γ.set i (.im xs)) ρ Θ := by
  obtain ⟨o, r, ho, e, back⟩ := E.pick h
  obtain ⟨p, vs, e1, hp, pI, q, ch, fz⟩ := e.ownL
  subst e1
  have ss : σ.set i (some (V.ref p)) = σ := set_same ho
  refine ⟨p, vs, ho, hp, pI, q, fun {I' H'} g vs' β _ ys r' => ?_, ?_⟩
  · have z := back _ _ (ch g vs' ys r')
    rw [ss] at z
    exact z
  · have z := back _ _ fz
    rw [ss] at z
    exact z
/-- forgetting -/
def Wk : List Cell → List Cell → Prop
  | [], [] => True
  | c :: Γ, d :: Γ' => (d = .any ∨ c = d) ∧ Wk Γ Γ'
  | _, _ => False
theorem EnvL.weak {es : List Ent} : ∀ {σ : List (Option V)} {Γ Γ' : List Cell}, σ.length = Γ.length → Wk Γ Γ' → EnvL K I H (σ.zip Γ ++ es) → EnvL K I H (σ.zip Γ' ++ es) ∧ σ.length = Γ'.length
  | [], [], [], _, _, h => ⟨h, rfl⟩
  | [], [], _ :: _, _, w, _ => w.elim
  | _ :: _, [], _, l, _, _ => by simp at l
  | [], _ :: _, _, l, _, _ => by simp at l
  | _ :: _, _ :: _, [], _, w, _ => w.elim
  | o :: σ, c :: Γ, d :: Γ', l, w, h => by
    have l' : σ.length = Γ.length := by simpa using l
    rcases w.1 with e | e
    · subst e
      obtain ⟨q, q2⟩ := EnvL.weak l' w.2 h.tail
      exact ⟨q.any, by simp [q2]⟩
    · subst e
      have h2 : EnvL K I H (σ.zip Γ ++ ((o, c) :: es)) := h.perm List.perm_middle.symm
      obtain ⟨q, q2⟩ := EnvL.weak (es := (o, c) :: es) l' w.2 h2
      exact ⟨q.perm List.perm_middle, by simp [q2]⟩
theorem Env.weak (E : Env K I H σ Γ ρ Θ) (w : Wk Γ Γ') : Env K I H σ Γ' ρ Θ := by
  obtain ⟨q, q2⟩ := EnvL.weak E.1 w E.2.2
  exact ⟨q2, E.2.1, q⟩
/-- into a call: the arguments are on the stack, the last one on top -/
theorem Env.enter {vs : List (Option V)} {cs : List Cell} (hl : vs.length = cs.length) (E : Env K I H σ Γ (vs.reverse ++ ρ) (cs.reverse ++ Θ)) : Env K I H vs cs (σ ++ ρ) (Γ ++ Θ) := by
  have l2 := E.2.1
  simp only [List.length_append, List.length_reverse] at l2
  refine ⟨hl, by simp [E.1]; omega, ?_⟩
  have q := E.2.2
  rw [List.zip_append (by simp [hl])] at q
  rw [List.zip_append E.1]
  have e : vs.reverse.zip cs.reverse = (vs.zip cs).reverse := (List.reverse_zipWith hl).symm
  rw [e] at q
  refine q.perm ?_
  have p1 : (σ.zip Γ ++ ((vs.zip cs).reverse ++ ρ.zip Θ)).Perm ((vs.zip cs).reverse ++ (σ.zip Γ ++ ρ.zip Θ)) := by
    rw [← List.append_assoc, ← List.append_assoc]
    exact List.perm_append_comm.append_right _
  exact p1.trans ((List.reverse_perm _).append_right _)
theorem EnvL.drop {es : List Ent} : ∀ {l : List Ent}, EnvL K I H (l ++ es) → EnvL K I H es
  | [], h => h
  | _ :: l, h => EnvL.drop (l := l) h.tail
/-- out of a call: its parameters are gone, its value on the stack -/
theorem Env.leave {vs : List (Option V)} {cs : List Cell} (hl : σ.length = Γ.length) (E : Env K I H vs cs (o :: (σ ++ ρ)) (c :: (Γ ++ Θ))) : Env K I H σ Γ (o :: ρ) (c :: Θ) := by
  have q : EnvL K I H ((o, c) :: ((σ ++ ρ).zip (Γ ++ Θ))) := EnvL.drop E.2.2
  have l2 := E.2.1
  simp only [List.length_cons, List.length_append] at l2
  rw [List.zip_append hl] at q
  exact ⟨hl, by simp; omega, q.perm List.perm_middle.symm⟩
theorem Env.leave0 {vs : List (Option V)} {cs : List Cell} (hl : σ.length = Γ.length) (E : Env K I H vs cs (σ ++ ρ) (Γ ++ Θ)) : Env K I H σ Γ ρ Θ := by
  have q : EnvL K I H ((σ ++ ρ).zip (Γ ++ Θ)) := EnvL.drop E.2.2
  have l2 := E.2.1
  simp only [List.length_append] at l2
  rw [List.zip_append hl] at q
  exact ⟨hl, by omega, q⟩
/-- the locals that a def has beside its parameters -/
theorem Env.locals {n : Nat} (E : Env K I H σ Γ ρ Θ) : Env K I H (σ ++ List.replicate n none) (Γ ++ List.replicate n .any) ρ Θ := by
  refine ⟨by simp [E.1], E.2.1, ?_⟩
  rw [List.zip_append E.1]
  have all : ∀ n, EnvL K I H ((List.replicate n (none : Option V)).zip (List.replicate n Cell.any) ++ (σ.zip Γ ++ ρ.zip Θ)) := by
    intro n
    induction n with
    | zero => exact E.2.2
    | succ n ih => exact ih.any
  have q := all n
  refine q.perm ?_
  rw [← List.append_assoc]
  exact List.perm_append_comm.append_right _
end
end M
namespace M
open PySem PySem.Spec PyProof.Rows L2

/-! ### wishes kept together, for unification -/
def OpG (r : R2) (x y : V) (H : Hp) (Q : VK) : Prop := r x y H Q
def UnG (r : V → Hp → VK → Prop) (x : V) (H : Hp) (Q : VK) : Prop := r x H Q
def CbG (r : List V → Hp → VK → Prop) (xs : List V) (H : Hp) (Q : VK) : Prop := r xs H Q
def LsG (vs : List V) (H : Hp) (Q : VK) : Prop := vs.length ≤ sizeLine ∧ ∀ p, H p = none → Q (.ref p) (upd H p (.lst vs))
def NotG (v : V) (H : Hp) (Q : VK) : Prop := ∃ c, v = .bl c ∧ Q (.bl (!c)) H
def LcG (J : It) (g : TG) (tt : TT) (te : TE) (is : List Nat) (σ : L2.St) (H : Hp) (Q : VK) : Prop := ∀ D, H D = none → ∃ W : Nat → Nat → Hp → Prop, (∃ m, W 0 m (upd H D (.lst []))) ∧ ∀ i' m H, W i' m H →
      (J.stop i' H ∧ Q (.ref D) H) ∨ (J.go i' H ∧ ∃ Nx : Hp → Prop, (∀ H', Nx H' → ∃ m', m' < m ∧ W (i' + 1) m' H') ∧ ∀ x H', J.yld i' H x H' → g x (wipe σ is) H' fun σ2 H2 => wipe σ2 is = wipe σ is ∧ tt σ2 H2 fun b H3 =>
        if b = true then te σ2 H3 fun y H4 => ∃ acc, H4 D = some (.lst acc) ∧ acc.length < sizeLine ∧ Nx (upd H4 D (.lst (acc ++ [y]))) else Nx H3)
/-! ### heap-free expressions and tests -/
abbrev enc {α : Type} [Sca α] (a : α) : V := Sca.enc a
abbrev okv {α : Type} [Sca α] (a : α) : Prop := Sca.okv a
structure HF (K : PySem.W.Frag) (te : TE) (Γ : List Cell) {α : Type} [Sca α] (m : Res α) : Prop where
  run : ∀ {I H : Hp} {σ ρ : List (Option V)} {Θ : List Cell} (X : Exn → Prop) (Q : VK), Env K I H σ Γ ρ Θ → wp m (fun x => okv x → Q (enc x) H) X → te σ H Q
structure HT (K : PySem.W.Frag) (tt : TT) (Γ : List Cell) (m : Res Bool) : Prop where
  run : ∀ {I H : Hp} {σ ρ : List (Option V)} {Θ : List Cell} (X : Exn → Prop) (Q : Bool → Hp → Prop), Env K I H σ Γ ρ Θ → wp m (fun x => Q x H) X → tt σ H Q
structure HR (r : R2) {α β γ : Type} [Sca α] [Sca β] [Sca γ] (x : α) (y : β) (m : Res γ) : Prop where
  run : ∀ {H : Hp} (X : Exn → Prop) (Q : VK), okv x → okv y → wp m (fun z => okv z → Q (enc z) H) X → r (enc x) (enc y) H Q
structure HU (r : V → Hp → VK → Prop) {α γ : Type} [Sca α] [Sca γ] (x : α) (m : Res γ) : Prop where
  run : ∀ {H : Hp} (X : Exn → Prop) (Q : VK), okv x → wp m (fun z => okv z → Q (enc z) H) X → r (enc x) H Q
/-- a built-in of one, of two scalars -/
structure HC1 (r : List V → Hp → VK → Prop) {α γ : Type} [Sca α] [Sca γ] (x : α) (m : Res γ) : Prop where
  run : ∀ {H : Hp} (X : Exn → Prop) (Q : VK), okv x → wp m (fun z => okv z → Q (enc z) H) X → r [enc x] H Q
structure HC2 (r : List V → Hp → VK → Prop) {α β γ : Type} [Sca α] [Sca β] [Sca γ] (x : α) (y : β) (m : Res γ) : Prop where
  run : ∀ {H : Hp} (X : Exn → Prop) (Q : VK), okv x → okv y → wp m (fun z => okv z → Q (enc z) H) X → r [enc x, enc y] H Q
theorem wpb {α β : Type} {m : Res α} {f : α → Res β} {P : β → Prop} {X : Exn → Prop} {P' : α → Prop} (h : wp (m.bind f) P X) (k : ∀ a, wp (f a) P X → P' a) : wp m P' X := wp_mono (wp_bind.mp h) k fun _ z => z
section
variable {K : PySem.W.Frag} {Γ : List Cell} {ta tb te : TE} {tt tu : TT} {r : R2} {α β γ : Type} [Sca α] [Sca β] [Sca γ] {i : Nat}
theorem hf_var {a : α} (h : Γ[i]? = some (.im a)) : HF K (tVar i) Γ (.ok a) := .mk fun X Q E q => ⟨_, (E.sca h).1, q (E.sca h).2⟩
theorem hf_c {a : α} {v : V} (h : v = enc a) (ok : okv a) : HF K (tC v) Γ (.ok a) := .mk fun X Q E q => by
  subst h
  exact q ok
theorem hf_pp {x : α} {y : β} {m : Res γ} (hr : HR r x y m) (ha : HF K ta Γ (.ok x)) (hb : HF K tb Γ (.ok y)) : HF K (tOp r ta tb) Γ m := .mk fun X Q E q => ha.run X _ E fun ox => hb.run X _ E fun oy => hr.run X Q ox oy q
theorem hf_pm {x : α} {m2 : Res β} {m : β → Res γ} (hr : ∀ y, HR r x y (m y)) (ha : HF K ta Γ (.ok x)) (hb : HF K tb Γ m2) : HF K (tOp r ta tb) Γ (m2.bind m) := .mk fun X Q E q =>
  ha.run X _ E fun ox => hb.run X _ E (wpb q fun y q oy => (hr y).run X Q ox oy q)
theorem hf_mp {m1 : Res α} {y : β} {m : α → Res γ} (hr : ∀ x, HR r x y (m x)) (ha : HF K ta Γ m1) (hb : HF K tb Γ (.ok y)) : HF K (tOp r ta tb) Γ (m1.bind m) := .mk fun X Q E q =>
  ha.run X _ E (wpb q fun x q ox => hb.run X _ E fun oy => (hr x).run X Q ox oy q)
theorem hf_mm {m1 : Res α} {m2 : Res β} {m : α → β → Res γ} (hr : ∀ x y, HR r x y (m x y)) (ha : HF K ta Γ m1) (hb : HF K tb Γ m2) : HF K (tOp r ta tb) Γ (m1.bind fun x => m2.bind fun y => m x y) := .mk fun X Q E q =>
  ha.run X _ E (wpb q fun x q ox => hb.run X _ E (wpb q fun y q oy => (hr x y).run X Q ox oy q))
theorem hf_up {rU : V → Hp → VK → Prop} {x : α} {m : Res γ} (hr : HU rU x m) (ha : HF K ta Γ (.ok x)) : HF K (tUn rU ta) Γ m := .mk fun X Q E q => ha.run X _ E fun ox => hr.run X Q ox q
theorem hf_um {rU : V → Hp → VK → Prop} {m1 : Res α} {m : α → Res γ} (hr : ∀ x, HU rU x (m x)) (ha : HF K ta Γ m1) : HF K (tUn rU ta) Γ (m1.bind m) := .mk fun X Q E q =>
  ha.run X _ E (wpb q fun x q ox => (hr x).run X Q ox q)
theorem hf_c1p {rc : List V → Hp → VK → Prop} {x : α} {m : Res γ} (hr : HC1 rc x m) (ha : HF K ta Γ (.ok x)) : HF K (tCB rc (tCons ta tNil)) Γ m := .mk fun X Q E q => ha.run X _ E fun ox => hr.run X Q ox q
theorem hf_c1m {rc : List V → Hp → VK → Prop} {m1 : Res α} {m : α → Res γ} (hr : ∀ x, HC1 rc x (m x)) (ha : HF K ta Γ m1) : HF K (tCB rc (tCons ta tNil)) Γ (m1.bind m) := .mk fun X Q E q =>
  ha.run X _ E (wpb q fun x q ox => (hr x).run X Q ox q)
theorem hf_c2p {rc : List V → Hp → VK → Prop} {x : α} {y : β} {m : Res γ} (hr : HC2 rc x y m) (ha : HF K ta Γ (.ok x)) (hb : HF K tb Γ (.ok y)) : HF K (tCB rc (tCons ta (tCons tb tNil))) Γ m := .mk fun X Q E q =>
  ha.run X _ E fun ox => hb.run X _ E fun oy => hr.run X Q ox oy q
theorem hf_c2m {rc : List V → Hp → VK → Prop} {m1 : Res α} {m2 : Res β} {m : α → β → Res γ} (hr : ∀ x y, HC2 rc x y (m x y)) (ha : HF K ta Γ m1) (hb : HF K tb Γ m2) :
    HF K (tCB rc (tCons ta (tCons tb tNil))) Γ (m1.bind fun x => m2.bind fun y => m x y) := .mk fun X Q E q =>
  ha.run X _ E (wpb q fun x q ox => hb.run X _ E (wpb q fun y q oy => (hr x y).run X Q ox oy q))

/-! tests -/
theorem ht_tt {m : Res Bool} (h : HF K te Γ m) : HT K (tTest te) Γ m := .mk fun X Q E q => h.run X _ E (wp_mono q (fun b q _ => ⟨b, rfl, q⟩) fun _ z => z)
theorem ht_B {m : Res Bool} (h : HF K te Γ m) : HT K (tB te) Γ m := .mk fun X Q E q => h.run X _ E (wp_mono q (fun b q _ => ⟨b, rfl, q⟩) fun _ z => z)
theorem ht_not_p {b : Bool} (h : HT K tt Γ (.ok b)) : HT K (tNot tt) Γ (.ok (!b)) := .mk fun X Q E q => h.run X _ E q
theorem ht_not_m {m : Res Bool} (h : HT K tt Γ m) : HT K (tNot tt) Γ (m.bind fun b => .ok (!b)) := .mk fun X Q E q => h.run X _ E (wp_bind.mp q)
theorem ht_and_pp {a b : Bool} (h : HT K tt Γ (.ok a)) (h2 : HT K tu Γ (.ok b)) : HT K (tAnd tt tu) Γ (.ok (a && b)) := .mk fun X Q E q => h.run X _ E (by
  cases a with
  | true => exact h2.run X Q E q
  | false => exact q)
theorem ht_or_pp {a b : Bool} (h : HT K tt Γ (.ok a)) (h2 : HT K tu Γ (.ok b)) : HT K (tOr tt tu) Γ (.ok (a || b)) := .mk fun X Q E q => h.run X _ E (by
  cases a with
  | true => exact q
  | false => exact h2.run X Q E q)
theorem ht_and_m {m1 m2 : Res Bool} (h : HT K tt Γ m1) (h2 : HT K tu Γ m2) : HT K (tAnd tt tu) Γ (m1.bind fun a => if a = true then m2 else .ok false) := .mk fun X Q E q => h.run X _ E (wpb q fun a q => by
  cases a with
  | true => exact h2.run X Q E q
  | false => exact q)
theorem ht_or_m {m1 m2 : Res Bool} (h : HT K tt Γ m1) (h2 : HT K tu Γ m2) : HT K (tOr tt tu) Γ (m1.bind fun a => if a = true then .ok true else m2) := .mk fun X Q E q => h.run X _ E (wpb q fun a q => by
  cases a with
  | true => exact q
  | false => exact h2.run X Q E q)
theorem ht_and_pm {a : Bool} {m2 : Res Bool} (h : HT K tt Γ (.ok a)) (h2 : HT K tu Γ m2) : HT K (tAnd tt tu) Γ (if a = true then m2 else .ok false) := .mk fun X Q E q => h.run X _ E (by
  cases a with
  | true => exact h2.run X Q E q
  | false => exact q)
theorem ht_or_pm {a : Bool} {m2 : Res Bool} (h : HT K tt Γ (.ok a)) (h2 : HT K tu Γ m2) : HT K (tOr tt tu) Γ (if a = true then .ok true else m2) := .mk fun X Q E q => h.run X _ E (by
  cases a with
  | true => exact q
  | false => exact h2.run X Q E q)
/-! and, or, not, if-else as values -/
theorem hf_and_pp {a b : Bool} (h : HF K ta Γ (.ok a)) (h2 : HF K tb Γ (.ok b)) : HF K (tAndV ta tb) Γ (.ok (a && b)) := .mk fun X Q E q => h.run X _ E fun _ => ⟨a, rfl, by
  cases a with
  | true => exact h2.run X Q E q
  | false => exact q trivial⟩
theorem hf_or_pp {a b : Bool} (h : HF K ta Γ (.ok a)) (h2 : HF K tb Γ (.ok b)) : HF K (tOrV ta tb) Γ (.ok (a || b)) := .mk fun X Q E q => h.run X _ E fun _ => ⟨a, rfl, by
  cases a with
  | true => exact q trivial
  | false => exact h2.run X Q E q⟩
theorem hf_and_pm {a : Bool} {m2 : Res Bool} (h : HF K ta Γ (.ok a)) (h2 : HF K tb Γ m2) : HF K (tAndV ta tb) Γ (if a = true then m2 else .ok false) := .mk fun X Q E q => h.run X _ E fun _ => ⟨a, rfl, by
  cases a with
  | true => exact h2.run X Q E q
  | false => exact q trivial⟩
theorem hf_or_pm {a : Bool} {m2 : Res Bool} (h : HF K ta Γ (.ok a)) (h2 : HF K tb Γ m2) : HF K (tOrV ta tb) Γ (if a = true then .ok true else m2) := .mk fun X Q E q => h.run X _ E fun _ => ⟨a, rfl, by
  cases a with
  | true => exact q trivial
  | false => exact h2.run X Q E q⟩
theorem hf_and_m {m1 m2 : Res Bool} (h : HF K ta Γ m1) (h2 : HF K tb Γ m2) : HF K (tAndV ta tb) Γ (m1.bind fun a => if a = true then m2 else .ok false) := .mk fun X Q E q => h.run X _ E (wpb q fun a q _ => ⟨a, rfl, by
  cases a with
  | true => exact h2.run X Q E q
  | false => exact q trivial⟩)
theorem hf_or_m {m1 m2 : Res Bool} (h : HF K ta Γ m1) (h2 : HF K tb Γ m2) : HF K (tOrV ta tb) Γ (m1.bind fun a => if a = true then .ok true else m2) := .mk fun X Q E q => h.run X _ E (wpb q fun a q _ => ⟨a, rfl, by
  cases a with
  | true => exact q trivial
  | false => exact h2.run X Q E q⟩)
theorem hf_not_p {b : Bool} (h : HF K ta Γ (.ok b)) : HF K (tNotV ta) Γ (.ok (!b)) := .mk fun X Q E q => h.run X _ E fun _ => ⟨b, rfl, q trivial⟩
theorem hf_not_m {m : Res Bool} (h : HF K ta Γ m) : HF K (tNotV ta) Γ (m.bind fun b => .ok (!b)) := .mk fun X Q E q => h.run X _ E (wpb q fun b q _ => ⟨b, rfl, q trivial⟩)
theorem hf_if_p {b : Bool} {x y : α} (h : HT K tt Γ (.ok b)) (h1 : HF K ta Γ (.ok x)) (h2 : HF K tb Γ (.ok y)) : HF K (tIf tt ta tb) Γ (.ok (if b = true then x else y)) := .mk fun X Q E q => h.run X _ E (by
  cases b with
  | true => exact h1.run X Q E q
  | false => exact h2.run X Q E q)
theorem hf_if_m {m : Res Bool} {m1 m2 : Res α} (h : HT K tt Γ m) (h1 : HF K ta Γ m1) (h2 : HF K tb Γ m2) : HF K (tIf tt ta tb) Γ (m.bind fun b => if b = true then m1 else m2) := .mk fun X Q E q => h.run X _ E (wpb q fun b q => by
  cases b with
  | true => exact h1.run X Q E q
  | false => exact h2.run X Q E q)
/-- chains a op b op c -/
theorem hf_chain {δ : Type} [Sca δ] {r' : R2} {tc : TE} {x : α} {y : β} {z : δ} {b c : Bool} (hr : HR r x y (.ok b)) (hr' : HR r' y z (.ok c)) (ha : HF K ta Γ (.ok x)) (hb : HF K tb Γ (.ok y)) (hc : HF K tc Γ (.ok z)) :
    HF K (tChain r r' ta tb tc) Γ (.ok (b && c)) := .mk fun X Q E q => ha.run X _ E fun ox => hb.run X _ E fun oy => hr.run X _ ox oy fun _ => ⟨b, rfl, by
  cases b with
  | true => exact hc.run X _ E fun oz => hr'.run X Q oy oz q
  | false => exact q trivial⟩
end

/-! ### ints -/
noncomputable def mulI (x y : Int) : Res Int := clo (if x.natAbs.log2 + y.natAbs.log2 < 1000000 then .ok (x * y) else .bad)
def modI (x y : Int) : Res Int := if 0 < y then .ok (x % y) else .bad
noncomputable def divI (x y : Int) : Res Int := clo (if 0 < y ∧ y.natAbs.log2 < 9000 then .ok (x / y) else .bad)
def powI (x y : Int) : Res Int := if 0 ≤ y ∧ ((x.natAbs.log2 + 1 : Nat) : Int) * y ≤ 2 ^ 27 then .ok (x ^ y.toNat) else .bad
def CPowW (i j : Int) : Prop := 0 ≤ j ∧ ((i.natAbs.log2 + 1 : Nat) : Int) * j ≤ 2 ^ 27
theorem op_powW {X : Cx} : OpR X (binaryOp .Pow) (rI CPowW fun i j => .int (i ^ j.toNat)) := opI fun i j _ _ _ _ _ hc q => PyProof.Rows.pow_int hc.1 (by
  have b : Builtin.Int.intBits i ≤ i.natAbs.log2 + 1 := by
    unfold Builtin.Int.intBits
    split <;> omega
  have h1 : ((Builtin.Int.intBits i : Nat) : Int) * j ≤ ((i.natAbs.log2 + 1 : Nat) : Int) * j := Int.mul_le_mul_of_nonneg_right (by omega) hc.1
  exact Int.le_trans h1 hc.2) q
theorem hr_add {x y : Int} : HR (rI0 fun i j => .int (i + j)) x y (.ok (x + y)) := .mk fun X Q _ _ q => ⟨x, y, rfl, rfl, q trivial⟩
theorem hr_sub {x y : Int} : HR (rI0 fun i j => .int (i - j)) x y (.ok (x - y)) := .mk fun X Q _ _ q => ⟨x, y, rfl, rfl, q trivial⟩
theorem hr_mul {x y : Int} : HR (rI CMulW fun i j => .int (i * j)) x y (mulI x y) := .mk fun X Q _ _ q => by
  unfold mulI at q
  rw [clo_eq] at q
  split at q
  · rename_i h
    exact ⟨x, y, rfl, rfl, h, q trivial⟩
  · exact q.elim
theorem hr_mod {x y : Int} : HR (rI (fun _ j => 0 < j) fun i j => .int (i % j)) x y (modI x y) := .mk fun X Q _ _ q => by
  unfold modI at q
  split at q
  · rename_i h
    exact ⟨x, y, rfl, rfl, h, q trivial⟩
  · exact q.elim
theorem hr_div {x y : Int} : HR (rI CDivW fun i j => .int (i / j)) x y (divI x y) := .mk fun X Q _ _ q => by
  unfold divI at q
  rw [clo_eq] at q
  split at q
  · rename_i h
    exact ⟨x, y, rfl, rfl, h, q trivial⟩
  · exact q.elim
theorem hr_pow {x y : Int} : HR (rI CPowW fun i j => .int (i ^ j.toNat)) x y (powI x y) := .mk fun X Q _ _ q => by
  unfold powI at q
  split at q
  · rename_i h
    exact ⟨x, y, rfl, rfl, h, q trivial⟩
  · exact q.elim
theorem hr_lt {x y : Int} : HR (rI0 fun i j => .bl (decide (i < j))) x y (.ok (decide (x < y))) := .mk fun X Q _ _ q => ⟨x, y, rfl, rfl, q trivial⟩
theorem hr_le {x y : Int} : HR (rI0 fun i j => .bl (decide (i ≤ j))) x y (.ok (decide (x ≤ y))) := .mk fun X Q _ _ q => ⟨x, y, rfl, rfl, q trivial⟩
theorem hr_gt {x y : Int} : HR (rI0 fun i j => .bl (decide (j < i))) x y (.ok (decide (y < x))) := .mk fun X Q _ _ q => ⟨x, y, rfl, rfl, q trivial⟩
theorem hr_ge {x y : Int} : HR (rI0 fun i j => .bl (decide (j ≤ i))) x y (.ok (decide (y ≤ x))) := .mk fun X Q _ _ q => ⟨x, y, rfl, rfl, q trivial⟩
theorem dec_congr {p q : Prop} [Decidable p] [Decidable q] (h : p ↔ q) : decide p = decide q := by
  by_cases hp : p
  · rw [decide_eq_true hp, decide_eq_true (h.mp hp)]
  · rw [decide_eq_false hp, decide_eq_false (fun z => hp (h.mpr z))]
theorem hr_eq_of {α : Type} [Sca α] [DecidableEq α] {x y : α} (hs : scal (enc x) (enc y) = true) (hi : (enc x : V) = enc y → x = y) : HR rEq x y (.ok (decide (x = y))) := .mk fun X Q _ _ q => ⟨hs, by
  have e : decide ((Sca.enc x : V) = Sca.enc y) = decide (x = y) := dec_congr ⟨hi, fun h => by rw [h]⟩
  rw [e]
  exact q trivial⟩
theorem hr_ne_of {α : Type} [Sca α] [DecidableEq α] {x y : α} (hs : scal (enc x) (enc y) = true) (hi : (enc x : V) = enc y → x = y) : HR rNe x y (.ok (!decide (x = y))) := .mk fun X Q _ _ q => ⟨hs, by
  have e : decide ((Sca.enc x : V) = Sca.enc y) = decide (x = y) := dec_congr ⟨hi, fun h => by rw [h]⟩
  rw [e]
  exact q trivial⟩
theorem hr_eqI {x y : Int} : HR rEq x y (.ok (decide (x = y))) := hr_eq_of rfl fun h => V.int.inj h
theorem hr_neI {x y : Int} : HR rNe x y (.ok (!decide (x = y))) := hr_ne_of rfl fun h => V.int.inj h
theorem hr_eqB {x y : Bool} : HR rEq x y (.ok (decide (x = y))) := hr_eq_of rfl fun h => V.bl.inj h
theorem hr_neB {x y : Bool} : HR rNe x y (.ok (!decide (x = y))) := hr_ne_of rfl fun h => V.bl.inj h
theorem hu_neg {x : Int} : HU (rU fun i => .int (-i)) x (.ok (-x)) := .mk fun X Q _ q => ⟨x, rfl, q trivial⟩
theorem hc_abs {x : Int} : HC1 (fun xs H Q => ∃ i, xs = [V.int i] ∧ Q (.int (if i < 0 then -i else i)) H) x (.ok (if x < 0 then -x else x)) := .mk fun X Q _ q => ⟨x, rfl, q trivial⟩
theorem hc_int {x : Int} : HC1 (fun xs H Q => (∃ i, xs = [V.int i] ∧ Q (.int i) H) ∨ ∃ k, xs = [.bl k] ∧ Q (.int (if k then 1 else 0)) H) x (.ok x) := .mk fun X Q _ q => .inl ⟨x, rfl, q trivial⟩
theorem hc_intB {x : Bool} : HC1 (fun xs H Q => (∃ i, xs = [V.int i] ∧ Q (.int i) H) ∨ ∃ k, xs = [.bl k] ∧ Q (.int (if k then 1 else 0)) H) x (.ok (if x = true then 1 else (0 : Int))) := .mk fun X Q _ q => .inr ⟨x, rfl, q trivial⟩
theorem hc_max {x y : Int} : HC2 (fun xs H Q => ∃ i j, xs = [V.int i, .int j] ∧ Q (.int (if j > i then j else i)) H) x y (.ok (max x y)) := .mk fun X Q _ _ q => ⟨x, y, rfl, by
  have e : (if y > x then y else x) = max x y := by
    rw [Int.max_def]
    split <;> split <;> omega
  rw [e]
  exact q trivial⟩
theorem hc_min {x y : Int} : HC2 (fun xs H Q => ∃ i j, xs = [V.int i, .int j] ∧ Q (.int (if j < i then j else i)) H) x y (.ok (min x y)) := .mk fun X Q _ _ q => ⟨x, y, rfl, by
  have e : (if y < x then y else x) = min x y := by
    rw [Int.min_def]
    split <;> split <;> omega
  rw [e]
  exact q trivial⟩

theorem hf_is {K : PySem.W.Frag} {te : TE} {Γ : List Cell} {α : Type} [Sca α] {m m' : Res α} (h : HF K te Γ m) (e : m = m') : HF K te Γ m' := by rw [← e]; exact h
/-! ### texts -/
theorem mkS_len (w : Tx) : (mkS w).length = List.length w := by simp [mkS, Str.length]
theorem mkS_list (w : Tx) : (mkS w).cps.toList = w := by simp [mkS]
theorem mkS_inj {a b : Tx} (h : mkS a = mkS b) : a = b := by
  have e := congrArg (fun s => s.cps.toList) h
  simp only [mkS_list] at e
  exact e
theorem mkS_app (a b : Tx) : mkS a ++ mkS b = mkS (a ++ b) := by
  apply ext_toList
  show (Array.append (mkS a).cps (mkS b).cps).toList = _
  simp [mkS]
theorem hr_eqT {x y : Tx} : HR rEq x y (.ok (decide (x = y))) := hr_eq_of rfl fun h => mkS_inj (V.str.inj h)
theorem hr_neT {x y : Tx} : HR rNe x y (.ok (!decide (x = y))) := hr_ne_of rfl fun h => mkS_inj (V.str.inj h)
noncomputable def xCat (a b : Tx) : Res Tx := clo (if a.length + b.length ≤ line then .ok (a ++ b) else .bad)
def xGet (w : Tx) (i : Int) : Res Tx := match atI w i with | some c => .ok [c] | none => .bad
def cutL {α : Type} (xs : List α) (lo hi : Option Int) : List α := (xs.drop (HT.sIx xs.length 0 lo)).take (HT.sIx xs.length xs.length hi - HT.sIx xs.length 0 lo)
theorem cutL_len {α : Type} (xs : List α) (lo hi : Option Int) : (cutL xs lo hi).length ≤ xs.length := by
  unfold cutL
  rw [List.length_take, List.length_drop]
  omega
theorem hr_catT {x y : Tx} : HR (fun x y H Q => ∃ i j, x = V.str i ∧ y = V.str j ∧ i.length + j.length ≤ sizeLine ∧ Q (.str (i ++ j)) H) x y (xCat x y) := .mk fun X Q _ _ q => by
  unfold xCat at q
  rw [clo_eq] at q
  split at q
  · rename_i h
    refine ⟨mkS x, mkS y, rfl, rfl, by rw [mkS_len, mkS_len, ← line_eq]; exact h, ?_⟩
    rw [mkS_app]
    exact q (by show (x ++ y).length ≤ line; rw [List.length_append]; exact h)
  · exact q.elim
def xLt (a b : Tx) : Bool := decide (a < b)
def xGt (a b : Tx) : Bool := decide (b < a)
def xLe (a b : Tx) : Bool := !decide (b < a)
def xGe (a b : Tx) : Bool := !decide (a < b)
theorem hr_ltT {x y : Tx} : HR (fun x y H Q => ∃ i j, x = V.str i ∧ y = V.str j ∧ Q (.bl (decide (i.cps.toList < j.cps.toList))) H) x y (.ok (xLt x y)) := .mk fun X Q _ _ q => ⟨mkS x, mkS y, rfl, rfl, by
  rw [mkS_list, mkS_list]
  exact q trivial⟩
theorem hr_gtT {x y : Tx} : HR (fun x y H Q => ∃ i j, x = V.str i ∧ y = V.str j ∧ Q (.bl (decide (j.cps.toList < i.cps.toList))) H) x y (.ok (xGt x y)) := .mk fun X Q _ _ q => ⟨mkS x, mkS y, rfl, rfl, by
  rw [mkS_list, mkS_list]
  exact q trivial⟩
theorem hr_leT {x y : Tx} : HR (fun x y H Q => ∃ i j, x = V.str i ∧ y = V.str j ∧ Q (.bl (!decide (j.cps.toList < i.cps.toList))) H) x y (.ok (xLe x y)) := .mk fun X Q _ _ q => ⟨mkS x, mkS y, rfl, rfl, by
  rw [mkS_list, mkS_list]
  exact q trivial⟩
theorem hr_geT {x y : Tx} : HR (fun x y H Q => ∃ i j, x = V.str i ∧ y = V.str j ∧ Q (.bl (!decide (i.cps.toList < j.cps.toList))) H) x y (.ok (xGe x y)) := .mk fun X Q _ _ q => ⟨mkS x, mkS y, rfl, rfl, by
  rw [mkS_list, mkS_list]
  exact q trivial⟩
theorem one_ok (c : Nat) : okv ([c] : Tx) := by show 1 ≤ line; decide
theorem hr_getT {x : Tx} {i : Int} : HR rIxS x i (xGet x i) := .mk fun X Q ox _ q => by
  unfold xGet at q
  cases e : atI x i with
  | none => rw [e] at q; exact q.elim
  | some c =>
    rw [e] at q
    exact ⟨mkS x, i, c, rfl, rfl, by rw [mkS_len, ← line_eq]; exact ox, by rw [mkS_list]; exact e, q (one_ok c)⟩
theorem hc_lenT {x : Tx} : HC1 (fun xs H Q => ∃ z : Str, xs = [V.str z] ∧ z.length ≤ sizeLine ∧ Q (.int z.length) H) x (.ok ((x.length : Nat) : Int)) := .mk fun X Q ox q =>
  ⟨mkS x, rfl, by rw [mkS_len, ← line_eq]; exact ox, by rw [mkS_len]; exact q trivial⟩
/-- slices of texts -/
structure HSl (K : PySem.W.Frag) (to : TO) (Γ : List Cell) (m : Res (Option Int)) : Prop where
  run : ∀ {I H : Hp} {σ ρ : List (Option V)} {Θ : List Cell} (X : Exn → Prop) (Q : Option Int → Hp → Prop), Env K I H σ Γ ρ Θ → wp m (fun x => Q x H) X → to σ H Q
section
variable {K : PySem.W.Frag} {Γ : List Cell} {te : TE} {tl th : TO}
theorem ho_none : HSl K tNoPart Γ (.ok none) := .mk fun X Q E q => q
theorem ho_p {i : Int} (h : HF K te Γ (.ok i)) : HSl K (tPart te) Γ (.ok (some i)) := .mk fun X Q E q => h.run X _ E fun _ => ⟨i, rfl, q⟩
theorem ho_m {m : Res Int} (h : HF K te Γ m) : HSl K (tPart te) Γ (m.bind fun i => .ok (some i)) := .mk fun X Q E q => h.run X _ E (wpb q fun i q _ => ⟨i, rfl, q⟩)
theorem cutS_mk (w : Tx) (lo hi : Option Int) : cutS (mkS w) lo hi = mkS (cutL w lo hi) := by
  unfold cutS cutL
  rw [mkS_list, mkS_len]
  rfl
theorem hf_cut_p {w : Tx} {lo hi : Option Int} (h : HF K te Γ (.ok w)) (hl : HSl K tl Γ (.ok lo)) (hh : HSl K th Γ (.ok hi)) : HF K (tSl rSlS te tl th) Γ (.ok (cutL w lo hi)) := .mk fun X Q E q =>
  h.run X _ E fun ow => hl.run X _ E (hh.run X _ E ⟨mkS w, rfl, by rw [mkS_len, ← line_eq]; exact ow, by rw [cutS_mk]; exact q (Nat.le_trans (cutL_len w lo hi) ow)⟩)
theorem hf_cut_m {m : Res Tx} {ml mh : Res (Option Int)} (h : HF K te Γ m) (hl : HSl K tl Γ ml) (hh : HSl K th Γ mh) : HF K (tSl rSlS te tl th) Γ (m.bind fun w => ml.bind fun lo => mh.bind fun hi => .ok (cutL w lo hi)) := .mk fun X Q E q =>
  h.run X _ E (wpb q fun w q ow => hl.run X _ E (wpb q fun lo q => hh.run X _ E (wpb q fun hi q => ⟨mkS w, rfl, by rw [mkS_len, ← line_eq]; exact ow, by rw [cutS_mk]; exact q (Nat.le_trans (cutL_len w lo hi) ow)⟩)))
end
end M
namespace M
open PySem PySem.Spec PyProof.Rows L2

/-! ### control of a mirror -/
inductive Fl (ρ σ : Type) : Type where
  | nx (s : σ) | bk (s : σ) | rt (r : ρ)
inductive Lp (ρ σ : Type) : Type where
  | fin (s : σ) | ret (r : ρ)
def forR {α ρ S : Type} (f : α → S → Res (Fl ρ S)) : List α → S → Res (Lp ρ S)
  | [], s => .ok (.fin s)
  | x :: xs, s => (f x s).bind fun y => match y with
    | .nx s' => forR f xs s'
    | .bk s' => .ok (.fin s')
    | .rt r => .ok (.ret r)
def forS {α S : Type} (f : α → S → Res S) : List α → S → Res S
  | [], s => .ok s
  | x :: xs, s => (f x s).bind fun s' => forS f xs s'
/-- lo, lo + 1, .. below hi -/
def rng (lo hi : Int) : List Int := (List.range (hi - lo).toNat).map fun (i : Nat) => lo + (i : Int)
def RgOk (lo hi : Int) : Prop := -(2 ^ 62) ≤ lo ∧ lo < 2 ^ 62 ∧ -(2 ^ 62) ≤ hi ∧ hi < 2 ^ 62
instance (lo hi : Int) : Decidable (RgOk lo hi) := by unfold RgOk; exact inferInstance
noncomputable def rngR (lo hi : Int) : Res (List Int) := clo (if RgOk lo hi then .ok (rng lo hi) else .bad)
theorem paired_at {α : Type} {f : V → α → Prop} : ∀ {vs : List V} {xs : List α} {i : Nat} {y : V} {x : α}, Paired f vs xs → vs[i]? = some y → xs[i]? = some x → f y x
  | _, _, _, _, _, .nil, h, _ => by simp at h
  | _, _, 0, _, _, .cons r _, h1, h2 => by
    simp at h1 h2
    subst h1 h2
    exact r
  | _, _, i + 1, _, _, .cons _ t, h1, h2 => paired_at (i := i) t (by simpa using h1) (by simpa using h2)
section
variable {K : PySem.W.Frag} {I H I' H' : Hp} {σ σ' ρ : List (Option V)} {Γ Γ' Θ : List Cell} {i j : Nat} {v : V} {c : Cell} {te tl : TE} {tt : TT} {t u : TS} {dn db dc : L2.St → Hp → Prop} {dr : VK} {Q : VK}
variable {ω : Type} {P : ω → Prop} {X : Exn → Prop}
theorem Env.clear (E : Env K I H σ Γ ρ Θ) : Env K I H [] [] ρ Θ := ⟨rfl, E.2.1, EnvL.drop E.2.2⟩

/-! ### expressions onto the stack -/
theorem st_push {α : Type} [Sca α] {x : α} (E : Env K I H σ Γ ρ Θ) (ht : HF K te Γ (.ok x)) (next : Env K I H σ Γ (some (enc x) :: ρ) (.im x :: Θ) → Q (enc x) H) : te σ H Q :=
  ht.run (fun _ => False) Q E fun ok => next (E.pushS ok)
theorem st_pushm {α : Type} [Sca α] {m : Res α} {k : α → Res ω} (E : Env K I H σ Γ ρ Θ) (ht : HF K te Γ m) (h : wp (m.bind k) P X) (next : ∀ x, Env K I H σ Γ (some (enc x) :: ρ) (.im x :: Θ) → wp (k x) P X → Q (enc x) H) : te σ H Q :=
  ht.run X Q E (wpb h fun x q ok => next x (E.pushS ok) q)
theorem st_var {α : Type} [Rep α] {a : α} (E : Env K I H σ Γ ρ Θ) (hΓ : Γ[i]? = some (.im a)) (next : ∀ v, Env K I H σ Γ (some v :: ρ) (.im a :: Θ) → Q v H) : tVar i σ H Q := by
  obtain ⟨v, ho, r⟩ := E.get hΓ
  exact ⟨v, ho, next v (E.push r)⟩
/-! ### statements -/
theorem st_store {Q : L2.St → Hp → Prop} (E : Env K I H σ Γ (some v :: ρ) (c :: Θ)) (hΓ : Γ.set i c = Γ') (hi : i < Γ.length) (next : ∀ σ', Env K I H σ' Γ' ρ Θ → Q σ' H) : gName i v σ H Q := next _ (E.store hi hΓ)
theorem st_set {α : Type} [Sca α] {x : α} (E : Env K I H σ Γ ρ Θ) (ht : HF K te Γ (.ok x)) (hΓ : Γ.set i (.im x) = Γ') (hi : i < Γ.length) (next : ∀ σ', Env K I H σ' Γ' ρ Θ → dn σ' H) : tAsg te (gName i) ⟨dn, dr, db, dc⟩ σ H :=
  st_push E ht fun E => st_store E hΓ hi next
theorem st_setm {α : Type} [Sca α] {m : Res α} {k : α → Res ω} {Γ' : α → List Cell} (E : Env K I H σ Γ ρ Θ) (ht : HF K te Γ m) (h : wp (m.bind k) P X) (hΓ : ∀ x, Γ.set i (.im x) = Γ' x) (hi : i < Γ.length) (next : ∀ x σ', Env K I H σ' (Γ' x) ρ Θ → wp (k x) P X → dn σ' H) : tAsg te (gName i) ⟨dn, dr, db, dc⟩ σ H :=
  st_pushm E ht h fun x E h => st_store E (hΓ x) hi fun σ' E => next x σ' E h
theorem st_ret {α : Type} [Sca α] {x : α} (E : Env K I H σ Γ ρ Θ) (ht : HF K te Γ (.ok x)) (h : ∀ I' H' v, Env K I' H' [] [] (some v :: ρ) (.im x :: Θ) → dr v H') : tRet te ⟨dn, dr, db, dc⟩ σ H :=
  st_push E ht fun E => h _ _ _ E.clear
theorem st_retm {α : Type} [Sca α] {m : Res α} {k : α → Res ω} (E : Env K I H σ Γ ρ Θ) (ht : HF K te Γ m) (h : wp (m.bind k) P X) (next : ∀ x, wp (k x) P X → ∀ I' H' v, Env K I' H' [] [] (some v :: ρ) (.im x :: Θ) → dr v H') : tRet te ⟨dn, dr, db, dc⟩ σ H :=
  st_pushm E ht h fun x E h => next x h _ _ _ E.clear
theorem st_retN (E : Env K I H σ Γ ρ Θ) (h : ∀ I' H' v, Env K I' H' [] [] (some v :: ρ) (.im () :: Θ) → dr v H') : dr .non H := h _ _ _ (E.clear.push ⟨rfl, trivial⟩)
theorem st_if {b : Bool} {m1 m2 : Res ω} (E : Env K I H σ Γ ρ Θ) (ht : HT K tt Γ (.ok b)) (h : wp (if b = true then m1 else m2) P X) (h1 : wp m1 P X → t ⟨dn, dr, db, dc⟩ σ H) (h2 : wp m2 P X → u ⟨dn, dr, db, dc⟩ σ H) : tIfS tt t u ⟨dn, dr, db, dc⟩ σ H :=
  ht.run X _ E (by
    show if b = true then _ else _
    cases b with
    | true => exact h1 h
    | false => exact h2 h)
theorem st_ifm {m : Res Bool} {m1 m2 : Res ω} (E : Env K I H σ Γ ρ Θ) (ht : HT K tt Γ m) (h : wp (m.bind fun b => if b = true then m1 else m2) P X) (h1 : wp m1 P X → t ⟨dn, dr, db, dc⟩ σ H) (h2 : wp m2 P X → u ⟨dn, dr, db, dc⟩ σ H) : tIfS tt t u ⟨dn, dr, db, dc⟩ σ H :=
  ht.run X _ E (wpb h fun b h => by
    show if b = true then _ else _
    cases b with
    | true => exact h1 h
    | false => exact h2 h)
/-- behind an if both ways go on together: s tells the data -/
theorem st_ifj {S : Type} {b : Bool} {m1 m2 : Res S} {k : S → Res ω} (G : S → List Cell) (E : Env K I H σ Γ ρ Θ) (ht : HT K tt Γ (.ok b)) (h : wp ((if b = true then m1 else m2).bind k) P X)
    (h1 : wp m1 (fun s => ∀ I' H' σ', Env K I' H' σ' (G s) ρ Θ → dn σ' H') X → t ⟨dn, dr, db, dc⟩ σ H) (h2 : wp m2 (fun s => ∀ I' H' σ', Env K I' H' σ' (G s) ρ Θ → dn σ' H') X → u ⟨dn, dr, db, dc⟩ σ H)
    (rest : ∀ s I' H' σ', Env K I' H' σ' (G s) ρ Θ → wp (k s) P X → dn σ' H') : tIfS tt t u ⟨dn, dr, db, dc⟩ σ H :=
  ht.run X _ E (by
    show if b = true then _ else _
    cases b with
    | true => exact h1 (wpb h fun s h I' H' σ' E => rest s I' H' σ' E h)
    | false => exact h2 (wpb h fun s h I' H' σ' E => rest s I' H' σ' E h))
theorem st_ifjm {S : Type} {m : Res Bool} {m1 m2 : Res S} {k : S → Res ω} (G : S → List Cell) (E : Env K I H σ Γ ρ Θ) (ht : HT K tt Γ m) (h : wp (m.bind fun b => (if b = true then m1 else m2).bind k) P X)
    (h1 : wp m1 (fun s => ∀ I' H' σ', Env K I' H' σ' (G s) ρ Θ → dn σ' H') X → t ⟨dn, dr, db, dc⟩ σ H) (h2 : wp m2 (fun s => ∀ I' H' σ', Env K I' H' σ' (G s) ρ Θ → dn σ' H') X → u ⟨dn, dr, db, dc⟩ σ H)
    (rest : ∀ s I' H' σ', Env K I' H' σ' (G s) ρ Θ → wp (k s) P X → dn σ' H') : tIfS tt t u ⟨dn, dr, db, dc⟩ σ H :=
  ht.run X _ E (wpb h fun b h => by
    show if b = true then _ else _
    cases b with
    | true => exact h1 (wpb h fun s h I' H' σ' E => rest s I' H' σ' E h)
    | false => exact h2 (wpb h fun s h I' H' σ' E => rest s I' H' σ' E h))
/-- the same where the test's value is at hand -/
theorem st_itej {S : Type} {b : Bool} {m1 m2 : Res S} {k : S → Res ω} (E : Env K I H σ Γ ρ Θ) (G : S → List Cell) (h : wp ((if b = true then m1 else m2).bind k) P X)
    (h1 : wp m1 (fun s => ∀ I' H' σ', Env K I' H' σ' (G s) ρ Θ → dn σ' H') X → t ⟨dn, dr, db, dc⟩ σ H) (h2 : wp m2 (fun s => ∀ I' H' σ', Env K I' H' σ' (G s) ρ Θ → dn σ' H') X → u ⟨dn, dr, db, dc⟩ σ H)
    (rest : ∀ s I' H' σ', Env K I' H' σ' (G s) ρ Θ → wp (k s) P X → dn σ' H') : if b = true then t ⟨dn, dr, db, dc⟩ σ H else u ⟨dn, dr, db, dc⟩ σ H := by
  cases b with
  | true => exact h1 (wpb h fun s h I' H' σ' E => rest s I' H' σ' E h)
  | false => exact h2 (wpb h fun s h I' H' σ' E => rest s I' H' σ' E h)
/-! ### loops -/
/-- what a turn's end means -/
def TurnP {ρτ S : Type} (K : PySem.W.Frag) (G : S → List Cell) (ρ : List (Option V)) (Θ : List Cell) (N B : L2.St → Hp → Prop) (R : ρτ → Prop) : Fl ρτ S → Prop
  | .nx s => ∀ I' H' σ', Env K I' H' σ' (G s) ρ Θ → N σ' H'
  | .bk s => ∀ I' H' σ', Env K I' H' σ' (G s) ρ Θ → B σ' H'
  | .rt r => R r
theorem forR_at {α ρτ S : Type} {f : α → S → Res (Fl ρτ S)} {xs : List α} {s : S} {i : Nat} {x : α} (hx : xs[i]? = some x) : forR f (xs.drop i) s = (f x s).bind fun y => match y with
    | .nx s' => forR f (xs.drop (i + 1)) s'
    | .bk s' => .ok (.fin s')
    | .rt r => .ok (.ret r) := by
  obtain ⟨hi, e⟩ := List.getElem?_eq_some_iff.mp hx
  rw [List.drop_eq_getElem_cons hi, e]
  rfl
/-- the walk J yields xs, as long as the entries ρe, Θe are on the stack -/
structure Feeds (K : PySem.W.Frag) (J : It) {α : Type} [Rep α] (xs : List α) (ρe : List (Option V)) (Θe : List Cell) : Prop where
  len : ρe.length = Θe.length
  go : ∀ {I H : Hp} {σ ρ : List (Option V)} {Γ Θ : List Cell} (i : Nat), Env K I H σ Γ (ρe ++ ρ) (Θe ++ Θ) → i < xs.length → J.go i H
  yld : ∀ {I H : Hp} {σ ρ : List (Option V)} {Γ Θ : List Cell} (i : Nat) (x : V) (H' : Hp) (a : α), Env K I H σ Γ (ρe ++ ρ) (Θe ++ Θ) → xs[i]? = some a → J.yld i H x H' → ∃ I', Grow I H I' H' ∧ Rep.rp K I' x a
  stop : ∀ {I H : Hp} {σ ρ : List (Option V)} {Γ Θ : List Cell} (i : Nat), Env K I H σ Γ (ρe ++ ρ) (Θe ++ Θ) → xs.length ≤ i → J.stop i H
theorem Env.drops : ∀ {ρe : List (Option V)} {Θe : List Cell}, ρe.length = Θe.length → Env K I H σ Γ (ρe ++ ρ) (Θe ++ Θ) → Env K I H σ Γ ρ Θ
  | [], [], _, E => E
  | _ :: _, [], h, _ => by simp at h
  | [], _ :: _, h, _ => by simp at h
  | o :: ρe, c :: Θe, h, E => Env.drops (ρe := ρe) (Θe := Θe) (by simpa using h) (Env.pop E)
/-- a for, its iterator at hand; s: the data that the turns change -/
theorem st_for {α ρτ S : Type} [Rep α] {xs : List α} {J : It} {ρe : List (Option V)} {Θe : List Cell} {g : TG} {tb : TS} {f : α → S → Res (Fl ρτ S)} {k : Lp ρτ S → Res ω} {s0 : S} (hJ : Feeds K J xs ρe Θe) (R : ρτ → Prop) (G : S → List Cell)
    (E : Env K I H σ Γ (ρe ++ ρ) (Θe ++ Θ)) (w : Wk Γ (G s0)) (h : wp ((forR f xs s0).bind k) P X) (ret : ∀ r, wp (k (.ret r)) P X → R r)
    (turn : ∀ x s I' H' σ' y (N B : L2.St → Hp → Prop), Env K I' H' σ' (G s) (some y :: (ρe ++ ρ)) (.im x :: (Θe ++ Θ)) → wp (f x s) (TurnP K G (ρe ++ ρ) (Θe ++ Θ) N B R) X → g y σ' H' fun σ2 H2 => tb ⟨N, dr, B, N⟩ σ2 H2) 
    (rest : ∀ s I' H' σ', Env K I' H' σ' (G s) ρ Θ → wp (k (.fin s)) P X → dn σ' H') :
    ∃ W : Nat → Nat → L2.St → Hp → Prop, (∃ m, W 0 m σ H) ∧ ∀ i m σ H, W i m σ H →
      (J.stop i H ∧ dn σ H) ∨ (J.go i H ∧ ∃ N : L2.St → Hp → Prop, (∀ σ' H', N σ' H' → ∃ m', m' < m ∧ W (i + 1) m' σ' H') ∧ ∀ x H', J.yld i H x H' → g x σ H' fun σ2 H2 => tb ⟨N, dr, dn, N⟩ σ2 H2) := by
  refine ⟨fun i m σ' H' => m = xs.length - i ∧ i ≤ xs.length ∧ ∃ s I', Env K I' H' σ' (G s) (ρe ++ ρ) (Θe ++ Θ) ∧ wp ((forR f (xs.drop i) s).bind k) P X, ⟨xs.length, by simp, Nat.zero_le _, s0, I, E.weak w, h⟩, ?_⟩
  rintro i m σ' H' ⟨rfl, hi, s, I', E', h'⟩
  by_cases hlt : i < xs.length
  · have hx : xs[i]? = some xs[i] := List.getElem?_eq_getElem hlt
    rw [forR_at hx, Res.bind_assoc] at h'
    refine .inr ⟨hJ.go i E' hlt, fun σ2 H2 => ∃ s I', Env K I' H2 σ2 (G s) (ρe ++ ρ) (Θe ++ Θ) ∧ wp ((forR f (xs.drop (i + 1)) s).bind k) P X, fun σ2 H2 z => ⟨xs.length - (i + 1), by omega, rfl, hlt, z⟩, fun y H2 hyl => ?_⟩
    obtain ⟨I2, g2, ry⟩ := hJ.yld i y H2 _ E' hx hyl
    refine turn _ s I2 H2 σ' y _ _ ((E'.grow g2).push ry) (wpb h' fun z q => ?_)
    cases z with
    | nx s' => exact fun I2 H2 σ2 E2 => ⟨s', I2, E2, q⟩
    | bk s' => exact fun I2 H2 σ2 E2 => rest s' I2 H2 σ2 (E2.drops hJ.len) q
    | rt r => exact ret r q
  · have e : i = xs.length := by omega
    subst e
    rw [List.drop_eq_nil_of_le (Nat.le_refl _)] at h'
    exact .inl ⟨hJ.stop _ E' (Nat.le_refl _), rest s I' H' σ' (E'.drops hJ.len) h'⟩
theorem forS_at {α S : Type} {f : α → S → Res S} {xs : List α} {s : S} {i : Nat} {x : α} (hx : xs[i]? = some x) : forS f (xs.drop i) s = (f x s).bind fun s' => forS f (xs.drop (i + 1)) s' := by
  obtain ⟨hi, e⟩ := List.getElem?_eq_some_iff.mp hx
  rw [List.drop_eq_getElem_cons hi, e]
  rfl
/-- a for that is never left early -/
theorem st_forS {α S : Type} [Rep α] {xs : List α} {J : It} {ρe : List (Option V)} {Θe : List Cell} {g : TG} {tb : TS} {f : α → S → Res S} {k : S → Res ω} {s0 : S} (hJ : Feeds K J xs ρe Θe) (G : S → List Cell)
    (E : Env K I H σ Γ (ρe ++ ρ) (Θe ++ Θ)) (w : Wk Γ (G s0)) (h : wp ((forS f xs s0).bind k) P X)
    (turn : ∀ x s I' H' σ' y (N B : L2.St → Hp → Prop), Env K I' H' σ' (G s) (some y :: (ρe ++ ρ)) (.im x :: (Θe ++ Θ)) → wp (f x s) (fun s => ∀ I' H' σ', Env K I' H' σ' (G s) (ρe ++ ρ) (Θe ++ Θ) → N σ' H') X → g y σ' H' fun σ2 H2 => tb ⟨N, dr, B, N⟩ σ2 H2) 
    (rest : ∀ s I' H' σ', Env K I' H' σ' (G s) ρ Θ → wp (k s) P X → dn σ' H') :
    ∃ W : Nat → Nat → L2.St → Hp → Prop, (∃ m, W 0 m σ H) ∧ ∀ i m σ H, W i m σ H →
      (J.stop i H ∧ dn σ H) ∨ (J.go i H ∧ ∃ N : L2.St → Hp → Prop, (∀ σ' H', N σ' H' → ∃ m', m' < m ∧ W (i + 1) m' σ' H') ∧ ∀ x H', J.yld i H x H' → g x σ H' fun σ2 H2 => tb ⟨N, dr, dn, N⟩ σ2 H2) := by
  refine ⟨fun i m σ' H' => m = xs.length - i ∧ i ≤ xs.length ∧ ∃ s I', Env K I' H' σ' (G s) (ρe ++ ρ) (Θe ++ Θ) ∧ wp ((forS f (xs.drop i) s).bind k) P X, ⟨xs.length, by simp, Nat.zero_le _, s0, I, E.weak w, h⟩, ?_⟩
  rintro i m σ' H' ⟨rfl, hi, s, I', E', h'⟩
  by_cases hlt : i < xs.length
  · have hx : xs[i]? = some xs[i] := List.getElem?_eq_getElem hlt
    rw [forS_at hx, Res.bind_assoc] at h'
    refine .inr ⟨hJ.go i E' hlt, fun σ2 H2 => ∃ s I', Env K I' H2 σ2 (G s) (ρe ++ ρ) (Θe ++ Θ) ∧ wp ((forS f (xs.drop (i + 1)) s).bind k) P X, fun σ2 H2 z => ⟨xs.length - (i + 1), by omega, rfl, hlt, z⟩, fun y H2 hyl => ?_⟩
    obtain ⟨I2, g2, ry⟩ := hJ.yld i y H2 _ E' hx hyl
    exact turn _ s I2 H2 σ' y _ _ ((E'.grow g2).push ry) (wpb h' fun s' q I3 H3 σ3 E3 => ⟨s', I3, E3, q⟩)
  · have e : i = xs.length := by omega
    subst e
    rw [List.drop_eq_nil_of_le (Nat.le_refl _)] at h'
    exact .inl ⟨hJ.stop _ E' (Nat.le_refl _), rest s I' H' σ' (E'.drops hJ.len) h'⟩
/-! ### what is walked -/
theorem it_rng0 {R : It → Hp → Prop} {lo : Int} {n : Nat} (next : ∀ J, Feeds K J ((List.range n).map fun (i : Nat) => lo + (i : Int)) [] [] → R J H) : R (Itr lo n) H := by
  refine next _ ⟨rfl, fun i _ hi => (show i < n by simpa using hi), fun {I H} {_ _} {_ _} i x H' a E hx hy => ?_, fun i _ hi => (show n ≤ i by simpa using hi)⟩
  obtain ⟨rfl, rfl⟩ := hy
  refine ⟨I, Grow.refl E.same, ?_⟩
  have hi : i < n := by
    have := (List.getElem?_eq_some_iff.mp hx).1
    simpa using this
  have e : lo + (i : Int) = a := by
    rw [List.getElem?_map, List.getElem?_range hi] at hx
    exact Option.some.inj hx
  exact ⟨by rw [e]; rfl, trivial⟩
theorem it_rng2 {R : It → Hp → Prop} {t1 t2 : TE} {a b : Int} {k : List Int → Res ω} (E : Env K I H σ Γ ρ Θ) (h1 : HF K t1 Γ (.ok a)) (h2 : HF K t2 Γ (.ok b)) (h : wp ((rngR a b).bind k) P X)
    (next : ∀ xs, wp (k xs) P X → ∀ J, Feeds K J xs [] [] → R J H) : iRng2 (tCons t1 (tCons t2 tNil)) σ H R := h1.run X _ E fun _ => h2.run X _ E fun _ => by
  unfold rngR at h
  rw [clo_eq] at h
  by_cases hr : RgOk a b
  · rw [if_pos hr] at h
    exact ⟨a, b, rfl, hr, it_rng0 (next _ h)⟩
  · rw [if_neg hr] at h
    exact h.elim
theorem it_rng2m {R : It → Hp → Prop} {t1 t2 : TE} {m1 m2 : Res Int} {k : List Int → Res ω} (E : Env K I H σ Γ ρ Θ) (h1 : HF K t1 Γ m1) (h2 : HF K t2 Γ m2) (h : wp (m1.bind fun a => m2.bind fun b => (rngR a b).bind k) P X)
    (next : ∀ xs, wp (k xs) P X → ∀ J, Feeds K J xs [] [] → R J H) : iRng2 (tCons t1 (tCons t2 tNil)) σ H R := h1.run X _ E (wpb h fun a h _ => h2.run X _ E (wpb h fun b h _ => by
  unfold rngR at h
  rw [clo_eq] at h
  by_cases hr : RgOk a b
  · rw [if_pos hr] at h
    exact ⟨a, b, rfl, hr, it_rng0 (next _ h)⟩
  · rw [if_neg hr] at h
    exact h.elim))
theorem it_rng1m {R : It → Hp → Prop} {t1 : TE} {m1 : Res Int} {k : List Int → Res ω} (E : Env K I H σ Γ ρ Θ) (h1 : HF K t1 Γ m1) (h : wp (m1.bind fun b => (rngR 0 b).bind k) P X)
    (next : ∀ xs, wp (k xs) P X → ∀ J, Feeds K J xs [] [] → R J H) : iRng1 (tCons t1 tNil) σ H R := h1.run X _ E (wpb h fun b h _ => by
  unfold rngR at h
  rw [clo_eq] at h
  by_cases hr : RgOk 0 b
  · rw [if_pos hr] at h
    have e : (b - 0).toNat = b.toNat := by omega
    unfold rng at h
    rw [e] at h
    exact ⟨b, rfl, hr.2.2.1, hr.2.2.2, it_rng0 (next _ h)⟩
  · rw [if_neg hr] at h
    exact h.elim)
theorem it_rng1 {R : It → Hp → Prop} {t1 : TE} {b : Int} {k : List Int → Res ω} (E : Env K I H σ Γ ρ Θ) (h1 : HF K t1 Γ (.ok b)) (h : wp ((rngR 0 b).bind k) P X)
    (next : ∀ xs, wp (k xs) P X → ∀ J, Feeds K J xs [] [] → R J H) : iRng1 (tCons t1 tNil) σ H R := it_rng1m (m1 := .ok b) E h1 h next
/-- on the stack: the two ends of a range (a call told them) -/
theorem it_list {α : Type} [Rep α] {R : Addr → Prop} {xs : List α} (E : Env K I H σ Γ (some v :: ρ) (.im xs :: Θ)) (next : ∀ a, Feeds K (Itl K a) xs [some v] [.im xs] → R a) :
    ∃ a, v = .ref a ∧ (∃ xs, SqL K H a xs) ∧ R a := by
  obtain ⟨a, vs, e, hq, pr⟩ := E.topR
  subst e
  refine ⟨a, rfl, ⟨vs, SqL.of (E.same _ _ hq)⟩, next _ ⟨rfl, fun {_ _} {_ _} {_ _} i E' hi => ?_, fun {I H} {_ _} {_ _} i x H' b E' hx hy => ?_, fun {_ _} {_ _} {_ _} i E' hi => ?_⟩⟩
  · obtain ⟨a', vs', e', hq', pr'⟩ := E'.topR
    cases e'
    have hl : vs'.length = xs.length := Paired.length pr'
    exact ⟨vs', vs'[i]'(by omega), SqL.of (E'.same _ _ hq'), List.getElem?_eq_getElem (by omega)⟩
  · obtain ⟨a', vs', e', hq', pr'⟩ := E'.topR
    cases e'
    obtain ⟨rfl, hy⟩ := hy
    have hl : vs'.length = xs.length := Paired.length pr'
    exact ⟨I, Grow.refl E'.same, paired_at pr' (hy _ (SqL.of (E'.same _ _ hq'))) hx⟩
  · obtain ⟨a', vs', e', hq', pr'⟩ := E'.topR
    cases e'
    have hl : vs'.length = xs.length := Paired.length pr'
    exact ⟨vs', SqL.of (E'.same _ _ hq'), by omega⟩
theorem it_tup {α : Type} [Rep α] {R : Addr → Prop} {xs : TupL α} (E : Env K I H σ Γ (some v :: ρ) (.im xs :: Θ)) (next : ∀ a, Feeds K (Itt K a) xs.l [some v] [.im xs] → R a) :
    ∃ a, v = .ref a ∧ (∃ xs, SqT K H a xs) ∧ R a := by
  obtain ⟨a, vs, e, hq, pr⟩ := E.topR
  subst e
  refine ⟨a, rfl, ⟨vs, same_seqT E.same hq⟩, next _ ⟨rfl, fun {_ _} {_ _} {_ _} i E' hi => ?_, fun {I H} {_ _} {_ _} i x H' b E' hx hy => ?_, fun {_ _} {_ _} {_ _} i E' hi => ?_⟩⟩
  · obtain ⟨a', vs', e', hq', pr'⟩ := E'.topR
    cases e'
    have hl : vs'.length = xs.l.length := Paired.length pr'
    exact ⟨vs', vs'[i]'(by omega), same_seqT E'.same hq', List.getElem?_eq_getElem (by omega)⟩
  · obtain ⟨a', vs', e', hq', pr'⟩ := E'.topR
    cases e'
    obtain ⟨rfl, hy⟩ := hy
    have hl : vs'.length = xs.l.length := Paired.length pr'
    exact ⟨I, Grow.refl E'.same, paired_at pr' (hy _ (same_seqT E'.same hq')) hx⟩
  · obtain ⟨a', vs', e', hq', pr'⟩ := E'.topR
    cases e'
    have hl : vs'.length = xs.l.length := Paired.length pr'
    exact ⟨vs', same_seqT E'.same hq', by omega⟩
end
/-- a text's signs -/
def chars (w : Tx) : List Tx := w.map fun c => [c]
section
variable {K : PySem.W.Frag} {I H : Hp} {σ ρ : List (Option V)} {Γ Θ : List Cell} {te : TE}
theorem it_str {R : It → Hp → Prop} {w : Tx} (E : Env K I H σ Γ ρ Θ) (ht : HF K te Γ (.ok w)) (next : ∀ J, Feeds K J (chars w) [] [] → R J H) : iStr te σ H R := ht.run (fun _ => False) _ E fun ok => by
  have sz : (mkS w).cps.size = w.length := mkS_len w
  have cl : (chars w).length = w.length := by unfold chars; simp
  refine ⟨mkS w, rfl, next _ ⟨rfl, fun i _ hi => ?_, fun {I H} {_ _} {_ _} i x H' a E' hx hy => ?_, fun i _ hi => ?_⟩⟩
  · show i < (mkS w).cps.size
    omega
  · obtain ⟨rfl, c, hc, rfl⟩ := hy
    refine ⟨I, Grow.refl E'.same, ?_⟩
    have e1 : (mkS w).cps.toList[i]? = some c := by rw [Array.getElem?_toList]; exact hc
    rw [mkS_list] at e1
    have e2 : a = [c] := by
      unfold chars at hx
      rw [List.getElem?_map, e1] at hx
      exact (Option.some.inj hx).symm
    subst e2
    exact ⟨rfl, one_ok c⟩
  · show (mkS w).cps.size ≤ i
    omega
end
theorem forR_nil {α ρ S : Type} {f : α → S → Res (Fl ρ S)} {s : S} : forR f [] s = .ok (.fin s) := rfl
theorem forR_cons {α ρ S : Type} {f : α → S → Res (Fl ρ S)} {s : S} {x : α} {xs : List α} : forR f (x :: xs) s = (f x s).bind fun y => match y with
    | .nx s' => forR f xs s'
    | .bk s' => .ok (.fin s')
    | .rt r => .ok (.ret r) := rfl
theorem forS_nil {α S : Type} {f : α → S → Res S} {s : S} : forS f [] s = .ok s := rfl
theorem forS_cons {α S : Type} {f : α → S → Res S} {s : S} {x : α} {xs : List α} : forS f (x :: xs) s = (f x s).bind fun s' => forS f xs s' := rfl
end M
namespace M
open PySem PySem.Spec PyProof.Rows L2

/-- what an exception bears -/
structure XD where
  fs : List (Str × V)
/-- its fields: none, or in a dict of its own -/
def XDr (I : Hp) (v : V) (fs : List (Str × V)) : Prop := (fs = [] ∧ v = .non) ∨ ∃ d, v = .ref d ∧ I d = some (.xd fs)
theorem XDr.mono {I J : Hp} {v : V} {fs : List (Str × V)} (e : Same I J) (h : XDr I v fs) : XDr J v fs := h.imp id fun ⟨d, e1, h⟩ => ⟨d, e1, e _ _ h⟩
instance repXD : Rep XD where
  rp K I v x := XDr I v x.fs
  mono := fun e h => h.mono e
/-- where the dict is -/
def dOf : V → Option Addr
  | .ref d => some d
  | _ => none
/-! ### promises by mirrors -/
def SpM (K : PySem.W.Frag) (mg : Str → Option Value) {A B : Type} (n : Nat) (cells : A → List Cell) (m : A → Res B) (oc : B → Cell) : Sp := fun vs H Q E =>
  vs.length = n ∧ ∃ (a : A) (I : Hp) (ρ : List (Option V)) (Θ : List Cell), Env K I H (vs.map some) (cells a) ρ Θ ∧
    wp (m a) (fun b => ∀ I' H' v, Env K I' H' [] [] (some v :: ρ) (oc b :: Θ) → Q v H')
      (fun e => ∀ I' H' cls d, mg e.cls = some cls → Env K I' H' [] [] (some d :: ρ) (.im (XD.mk e.fs) :: Θ) → E cls (dOf d) H')
/-- one owned parameter, the first; its data behind the call is told too -/
def SpO (K : PySem.W.Frag) (mg : Str → Option Value) {S A B : Type} [Own S] (n : Nat) (cells : A → List Cell) (m : S → A → Res (B × S)) (oc : B → Cell) : Sp := fun vs H Q E =>
  vs.length = n + 1 ∧ ∃ (s : S) (a : A) (I : Hp) (ρ : List (Option V)) (Θ : List Cell), Env K I H (vs.map some) (.own s vs.head? :: cells a) ρ Θ ∧
    wp (m s a) (fun b => ∀ I' H' v, Env K I' H' [vs.head?] [.own b.2 vs.head?] (some v :: ρ) (oc b.1 :: Θ) → Q v H')
      (fun e => ∀ I' H' cls d, mg e.cls = some cls → Env K I' H' [] [] (some d :: ρ) (.im (XD.mk e.fs) :: Θ) → E cls (dOf d) H')
section
variable {K : PySem.W.Frag} {mg : Str → Option Value} {I H I' H' : Hp} {σ σ' ρ : List (Option V)} {Γ Γ' Θ : List Cell} {i j n : Nat} {v : V} {c : Cell} {te tl : TE} {tt : TT} {t u : TS} {dn db dc : L2.St → Hp → Prop} {dr : VK} {Q : VK} {W : WX}
variable {ω : Type} {P : ω → Prop} {X : Exn → Prop}
/-- the wish about exceptions at slots σ over the frame ρ, Θ -/
def XWish (K : PySem.W.Frag) (mg : Str → Option Value) (W : WX) (σ : List (Option V)) (Γ : List Cell) (ρ : List (Option V)) (Θ : List Cell) (e : Exn) : Prop :=
  ∀ I' H' cls d, mg e.cls = some cls → Env K I' H' σ Γ (some d :: ρ) (.im (XD.mk e.fs) :: Θ) → W cls (dOf d) σ H'
theorem st_call {A B : Type} {cells : A → List Cell} {m : A → Res B} {oc : B → Cell} {vs : List V} (a : A) {k : B → Res ω} (E : Env K I H σ Γ ((vs.map some).reverse ++ ρ) ((cells a).reverse ++ Θ)) (hn : vs.length = n) (hc : (cells a).length = n)
    (h : wp ((m a).bind k) P X) (hX : ∀ e, X e → XWish K mg W σ Γ ρ Θ e)
    (next : ∀ b I' H' v, Env K I' H' σ Γ (some v :: ρ) (oc b :: Θ) → wp (k b) P X → Q v H') : SpM K mg n cells m oc vs H Q (WE W σ) := by
  refine ⟨hn, a, I, σ ++ ρ, Γ ++ Θ, E.enter (by rw [List.length_map, hn, hc]), ?_⟩
  refine wp_mono (wp_bind.mp h) (fun b q I' H' v E' => next b I' H' v (E'.leave E.1) q) fun e x I' H' cls d hm E' => hX e x I' H' cls d hm (E'.leave E.1)
theorem Env.swap {o1 o2 : Option V} {c1 c2 : Cell} (E : Env K I H σ Γ (o1 :: o2 :: ρ) (c1 :: c2 :: Θ)) : Env K I H σ Γ (o2 :: o1 :: ρ) (c2 :: c1 :: Θ) :=
  ⟨E.1, by have := E.2.1; simpa using this, E.2.2.perm ((List.Perm.swap _ _ _).append_left _)⟩
/-- the body's start -/
theorem st_start {N : List Str} {vs : List V} {k : Nat} (E : Env K I H (vs.map some) Γ ρ Θ) (hk : N.length - vs.length = k) : Env K I H (start N vs) (Γ ++ List.replicate k .any) ρ Θ := by
  subst hk
  exact E.locals
/-! ### own exceptions with one field -/
def spIni (C : Addr) (f : Str) : Sp := fun vs H Q _ => ∃ a y, vs = [.ref a, y] ∧ H a = some (exo a C none) ∧ ∀ dx, H dx = none → dx ≠ a → Q .non (upd (upd H dx (exd dx [(f, y)])) a (exo a C (some dx)))
theorem st_raise {α : Type} [Sca α] {C : Addr} {x : Str} {f : Str} {a : α} (E : Env K I H σ Γ ρ Θ) (ht : HF K te Γ (.ok a)) (hC : mg x = some (.ref C)) (h : XWish K mg W σ Γ ρ Θ ⟨x, [(f, enc a)]⟩) :
    tMkO C (spIni C f) [] (tCons te tNil) σ H fun cls d H' => W cls d σ H' :=
  ht.run (fun _ => False) _ E fun ok => by
    refine ⟨by simp, fun p hp => ⟨p, enc a, rfl, upd_same, fun dx hdx ne => ⟨rfl, dx, [(f, enc a)], upd_same, ?_, ?_, ?_⟩⟩⟩
    · rw [upd_ne ne, upd_same]
    · rw [upd_ne ne] at hdx
      exact hdx
    · rw [upd_ne ne] at hdx
      have e : upd (del (upd (upd (upd H p (exo p C none)) dx (exd dx [(f, enc a)])) p (exo p C (some dx))) p) dx (.xd [(f, enc a)]) = upd H dx (.xd [(f, enc a)]) := by
        funext b
        by_cases hb : b = dx
        · rw [hb, upd_same, upd_same]
        · rw [upd_ne hb, upd_ne hb]
          by_cases hp' : b = p
          · rw [hp', del_same, hp]
          · rw [del_ne hp', upd_ne hp', upd_ne hb, upd_ne hp']
      rw [e]
      exact h _ _ (.ref C) (.ref dx) hC ((E.grow (Grow.newI (u := .xd [(f, enc a)]) E.same hdx)).push (.inr ⟨dx, rfl, upd_same⟩))
/-- an own exception without fields -/
theorem st_raise0 {C : Addr} {x : Str} (E : Env K I H σ Γ ρ Θ) (hC : mg x = some (.ref C)) (h : XWish K mg W σ Γ ρ Θ ⟨x, []⟩) : W (.ref C) none σ H := h I H (.ref C) .non hC (E.push (a := XD.mk []) (.inl ⟨rfl, rfl⟩))
/-- what the top says of such a class -/
structure ExcTxt (P : Program) (w : World) (K : PySem.W.Frag) (mg : Str → Option Value) (base : Heap) (x f : Str) (C fI : Addr) (fd : FuncData) : Prop where
  gC : mg x = some (.ref C)
  T : OexC K C
  iC : PySem.W.findIn K (.ref C) "__init__" = some (some (.ref fI))
  tI : PySem.W.typeIn K (.ref fI) = some (.type "function")
  ini : FnOk P w K mg base (L2.CX P w) 1 fI fd ["self", f] (spIni C f)
  bI : Binds K fd ["self", f] []
end
end M
namespace M
open PySem PySem.Spec PyProof.Rows L2
section
variable {K : PySem.W.Frag} {mg : Str → Option Value} {I H I' H' : Hp} {σ σ' ρ : List (Option V)} {Γ Γ' Θ : List Cell} {i j n : Nat} {v v1 v2 : V} {c c1 c2 : Cell} {te tl : TE} {tt : TT} {t u : TS} {dn db dc : L2.St → Hp → Prop} {dr : VK} {Q : VK} {W : WX}
variable {ω : Type} {P : ω → Prop} {X : Exn → Prop} {α β γ : Type}
/-! ### operators on the stack -/
theorem Env.topS [Sca α] {a : α} (E : Env K I H σ Γ (some v :: ρ) (.im a :: Θ)) : v = enc a ∧ okv a := E.topR
theorem st_op2 [Sca α] [Sca β] [Sca γ] {r : R2} {x : α} {y : β} {m : Res γ} {k : γ → Res ω} (E : Env K I H σ Γ (some v2 :: some v1 :: ρ) (.im y :: .im x :: Θ)) (hr : HR r x y m) (h : wp (m.bind k) P X)
    (next : ∀ z v, Env K I H σ Γ (some v :: ρ) (.im z :: Θ) → wp (k z) P X → Q v H) : OpG r v1 v2 H Q := by
  obtain ⟨e2, o2⟩ := E.topS
  obtain ⟨e1, o1⟩ := E.pop.topS
  subst e1 e2
  exact hr.run X Q o1 o2 (wpb h fun z q ok => next z _ (E.pop.pop.pushS ok) q)
theorem st_op2p [Sca α] [Sca β] [Sca γ] {r : R2} {x : α} {y : β} {z : γ} (E : Env K I H σ Γ (some v2 :: some v1 :: ρ) (.im y :: .im x :: Θ)) (hr : HR r x y (.ok z))
    (next : ∀ v, Env K I H σ Γ (some v :: ρ) (.im z :: Θ) → Q v H) : OpG r v1 v2 H Q := by
  obtain ⟨e2, o2⟩ := E.topS
  obtain ⟨e1, o1⟩ := E.pop.topS
  subst e1 e2
  exact hr.run (fun _ => False) Q o1 o2 fun ok => next _ (E.pop.pop.pushS ok)
theorem st_un [Sca α] [Sca γ] {r : V → Hp → VK → Prop} {x : α} {m : Res γ} {k : γ → Res ω} (E : Env K I H σ Γ (some v1 :: ρ) (.im x :: Θ)) (hr : HU r x m) (h : wp (m.bind k) P X)
    (next : ∀ z v, Env K I H σ Γ (some v :: ρ) (.im z :: Θ) → wp (k z) P X → Q v H) : UnG r v1 H Q := by
  obtain ⟨e1, o1⟩ := E.topS
  subst e1
  exact hr.run X Q o1 (wpb h fun z q ok => next z _ (E.pop.pushS ok) q)
theorem st_c1 [Sca α] [Sca γ] {r : List V → Hp → VK → Prop} {x : α} {m : Res γ} {k : γ → Res ω} (E : Env K I H σ Γ (some v1 :: ρ) (.im x :: Θ)) (hr : HC1 r x m) (h : wp (m.bind k) P X)
    (next : ∀ z v, Env K I H σ Γ (some v :: ρ) (.im z :: Θ) → wp (k z) P X → Q v H) : CbG r [v1] H Q := by
  obtain ⟨e1, o1⟩ := E.topS
  subst e1
  exact hr.run X Q o1 (wpb h fun z q ok => next z _ (E.pop.pushS ok) q)
theorem st_c2 [Sca α] [Sca β] [Sca γ] {r : List V → Hp → VK → Prop} {x : α} {y : β} {m : Res γ} {k : γ → Res ω} (E : Env K I H σ Γ (some v2 :: some v1 :: ρ) (.im y :: .im x :: Θ)) (hr : HC2 r x y m) (h : wp (m.bind k) P X)
    (next : ∀ z v, Env K I H σ Γ (some v :: ρ) (.im z :: Θ) → wp (k z) P X → Q v H) : CbG r [v1, v2] H Q := by
  obtain ⟨e2, o2⟩ := E.topS
  obtain ⟨e1, o1⟩ := E.pop.topS
  subst e1 e2
  exact hr.run X Q o1 o2 (wpb h fun z q ok => next z _ (E.pop.pop.pushS ok) q)
/-- a truth value on the stack, tested -/
theorem st_tb {b : Bool} {Q : Bool → Hp → Prop} (E : Env K I H σ Γ (some v :: ρ) (.im b :: Θ)) (next : Env K I H σ Γ ρ Θ → Q b H) : ∃ k, v = .bl k ∧ Q k H := by
  obtain ⟨e, _⟩ := E.topS
  exact ⟨b, e, next E.pop⟩
theorem st_ite {b : Bool} {m1 m2 : Res ω} {A B : Prop} (h : wp (if b = true then m1 else m2) P X) (h1 : wp m1 P X → A) (h2 : wp m2 P X → B) : if b = true then A else B := by
  cases b with
  | true => exact h1 h
  | false => exact h2 h
/-- a test whose ways meet -/
theorem st_tj {S : Type} {m : Res (Bool × S)} {k : Bool × S → Res ω} {Q : Bool → Hp → Prop} (E : Env K I H σ Γ ρ Θ) (G : S → List Cell) (h : wp (m.bind k) P X)
    (first : wp m (fun b => ∀ I' H', Env K I' H' σ (G b.2) ρ Θ → Q b.1 H') X → tt σ H Q)
    (rest : ∀ b s I' H', Env K I' H' σ (G s) ρ Θ → wp (k (b, s)) P X → Q b H') : tt σ H Q :=
  first (wpb h fun b q I' H' E => rest b.1 b.2 I' H' E q)
theorem Env.nip {o1 o2 : Option V} (E : Env K I H σ Γ (o1 :: o2 :: ρ) (c1 :: c2 :: Θ)) : Env K I H σ Γ (o1 :: ρ) (c1 :: Θ) := E.swap.pop
/-- a call's value is returned -/
theorem st_retv (E : Env K I H σ Γ (some v :: ρ) (c :: Θ)) (h : ∀ I' H' v, Env K I' H' [] [] (some v :: ρ) (c :: Θ) → dr v H') : dr v H := h _ _ _ E.clear
/-- what a return is to bring -/
def RetP {B : Type} (K : PySem.W.Frag) (ρ : List (Option V)) (Θ : List Cell) (oc : B → Cell) (Q : VK) : B → Prop := fun r => ∀ I' H' v, Env K I' H' [] [] (some v :: ρ) (oc r :: Θ) → Q v H'
def RetO {B S : Type} [Own S] (K : PySem.W.Frag) (ρ : List (Option V)) (Θ : List Cell) (oc : B → Cell) (v0 : V) (Q : VK) : B × S → Prop := fun r => ∀ I' H' v, Env K I' H' [some v0] [.own r.2 (some v0)] (some v :: ρ) (oc r.1 :: Θ) → Q v H'
theorem Env.only {o0 : Option V} {c0 : Cell} : Env K I H σ (c0 :: Γ) ρ Θ → ∃ o0, σ.head? = some o0 ∧ Env K I H [o0] [c0] ρ Θ := fun E => by
  cases σ with
  | nil => have := E.1; simp at this
  | cons o σ =>
    refine ⟨o, rfl, rfl, E.2.1, ?_⟩
    have q : EnvL K I H ((o, c0) :: (σ.zip Γ ++ ρ.zip Θ)) := E.2.2
    have q2 : EnvL K I H (σ.zip Γ ++ ((o, c0) :: ρ.zip Θ)) := q.perm List.perm_middle.symm
    exact EnvL.drop q2
theorem Env.only0 {S : Type} [Own S] {s : S} {v0 : V} (E : Env K I H σ (.own s (some v0) :: Γ) ρ Θ) : Env K I H [some v0] [.own s (some v0)] ρ Θ := by
  obtain ⟨o, _, q⟩ := E.only (o0 := none)
  have z : EnvL K I H ((o, Cell.own s (some v0)) :: ρ.zip Θ) := q.2.2
  obtain ⟨_, fs, h1, _⟩ := id z
  cases fs with
  | nil => exact h1.elim
  | cons f fs =>
    obtain ⟨w, e1, e2, _⟩ := h1.1
    have e1 : o = some w := e1
    subst e1
    have e3 : w = v0 := e2 v0 rfl
    subst e3
    exact q
/-- an owned list is returned -/
theorem st_retO [Own α] {a : α} {pn : Option V} (E : Env K I H σ Γ ρ Θ) (hΓ : Γ[i]? = some (.own a pn)) (h : ∀ I' H' v, Env K I' H' [] [] (some v :: ρ) (.own a pn :: Θ) → dr v H') : tRet (tVar i) ⟨dn, dr, db, dc⟩ σ H := by
  obtain ⟨o, r, ho, e, _⟩ := E.pick hΓ
  obtain ⟨o2, ho2⟩ := E.slot hΓ
  obtain ⟨r2, p1, _⟩ := perm_at (zip_at ho hΓ)
  have z : EnvL K I H ((o, .own a pn) :: (r2 ++ ρ.zip Θ)) := E.2.2.perm (p1.append_right _)
  have z2 : EnvL K I H ((o, .own a pn) :: ρ.zip Θ) := by
    have z3 : EnvL K I H (r2 ++ ((o, .own a pn) :: ρ.zip Θ)) := z.perm List.perm_middle.symm
    exact EnvL.drop z3
  obtain ⟨_, fs, h1, _⟩ := id z
  cases fs with
  | nil => exact h1.elim
  | cons f fs =>
    obtain ⟨w, e1, _, _⟩ := h1.1
    have e1 : o = some w := e1
    subst e1
    exact ⟨w, ho, h I H w ⟨rfl, by simp [E.2.1], z2⟩⟩
/-- an expression's value dropped -/
theorem st_drop (E : Env K I H σ Γ (some v :: ρ) (c :: Θ)) (next : Env K I H σ Γ ρ Θ → dn σ H) : dn σ H := next E.pop
end
end M
namespace M
open PySem PySem.Spec PyProof.Rows L2
section
variable {K : PySem.W.Frag} {mg : Str → Option Value} {I H I' H' : Hp} {σ σ' ρ : List (Option V)} {Γ Γ' Θ : List Cell} {i j n : Nat} {v v1 v2 v3 : V} {c c1 c2 : Cell} {te tl ti : TE} {ta : TA} {tt : TT} {t u : TS} {dn db dc : L2.St → Hp → Prop} {dr : VK} {Q : VK} {W : WX}
variable {pn : Option V} {ω : Type} {P : ω → Prop} {X : Exn → Prop} {α β γ δ : Type}
/-! ### lists: new ones -/
theorem Env.collect [Rep α] : ∀ {xs : List α} {vs : List V}, vs.length = xs.length → Env K I H σ Γ ((vs.map some).reverse ++ ρ) ((xs.map Cell.im).reverse ++ Θ) → Paired (fun v x => Rep.rp K I v x) vs xs ∧ Env K I H σ Γ ρ Θ := by
  intro xs
  induction xs generalizing ρ Θ with
  | nil =>
    intro vs h E
    cases vs with
    | nil => exact ⟨.nil, E⟩
    | cons v vs => simp at h
  | cons x xs ih =>
    intro vs h E
    cases vs with
    | nil => simp at h
    | cons v vs =>
      have e1 : ((v :: vs).map some).reverse ++ ρ = (vs.map some).reverse ++ (some v :: ρ) := by simp
      have e2 : ((x :: xs).map Cell.im).reverse ++ Θ = (xs.map Cell.im).reverse ++ (Cell.im x :: Θ) := by simp
      rw [e1, e2] at E
      obtain ⟨p, E'⟩ := ih (by simpa using h) E
      exact ⟨.cons E'.topR p, E'.pop⟩
theorem Env.newI [Rep α] {p : Addr} {u : HO} {x : α} (E : Env K I H σ Γ ρ Θ) (hp : H p = none) (r : Rep.rp K (upd I p u) (.ref p) x) : Env K (upd I p u) (upd H p u) σ Γ (some (.ref p) :: ρ) (.im x :: Θ) :=
  (E.grow (Grow.newI E.same hp)).push r
theorem Env.same_newI {p : Addr} {u : HO} (E : Env K I H σ Γ ρ Θ) (hp : H p = none) : Same I (upd I p u) := (Grow.newI E.same hp).im
/-- a new list, owned | not to be changed -/
theorem st_newO [Rep α] {vs : List V} {xs : List α} (E : Env K I H σ Γ ρ Θ) (r : Paired (fun v x => Rep.rp K I v x) vs xs) (next : ∀ H' v, Env K I H' σ Γ (some v :: ρ) (.own xs :: Θ) → Q v H') : ∀ p, H p = none → Q (.ref p) (upd H p (.lst vs)) :=
  fun p hp => next _ _ (E.newL hp r)
theorem st_newI [Rep α] {vs : List V} {xs : List α} (E : Env K I H σ Γ ρ Θ) (r : Paired (fun v x => Rep.rp K I v x) vs xs) (next : ∀ I' H' v, Env K I' H' σ Γ (some v :: ρ) (.im xs :: Θ) → Q v H') : ∀ p, H p = none → Q (.ref p) (upd H p (.lst vs)) :=
  fun p hp => next _ _ _ (E.newI hp ⟨p, vs, rfl, upd_same, Paired.monoR (fun _ _ z => Rep.mono (E.same_newI hp) z) r⟩)
theorem line_of {n : Nat} (h : n ≤ line) : n ≤ sizeLine := by rw [← line_eq]; exact h
/-- [a, b, ..] -/
theorem st_lstO [Rep α] (vs : List V) (xs : List α) (hl : vs.length = xs.length) (hz : vs.length ≤ line) (E : Env K I H σ Γ ((vs.map some).reverse ++ ρ) ((xs.map Cell.im).reverse ++ Θ))
    (next : ∀ H' v, Env K I H' σ Γ (some v :: ρ) (.own xs :: Θ) → Q v H') : LsG vs H Q :=
  ⟨line_of hz, st_newO (E.collect hl).2 (E.collect hl).1 next⟩
theorem st_lstI [Rep α] (vs : List V) (xs : List α) (hl : vs.length = xs.length) (hz : vs.length ≤ line) (E : Env K I H σ Γ ((vs.map some).reverse ++ ρ) ((xs.map Cell.im).reverse ++ Θ))
    (next : ∀ I' H' v, Env K I' H' σ Γ (some v :: ρ) (.im xs :: Θ) → Q v H') : LsG vs H Q :=
  ⟨line_of hz, st_newI (E.collect hl).2 (E.collect hl).1 next⟩
/-- an owned list is let be -/
theorem st_freeze [Rep α] {xs : List α} {A : Prop} (E : Env K I H σ Γ ρ Θ) (hΓ : Γ[i]? = some (.own xs pn)) (hs : Γ.set i (.im xs) = Γ') (next : ∀ I', Env K I' H σ Γ' ρ Θ → A) : A := by
  subst hs
  obtain ⟨p, vs, _, _, _, _, _, fz⟩ := E.ownAt hΓ
  exact next _ fz
theorem st_freezeT [Rep α] {xs : List α} {A : Prop} (E : Env K I H σ Γ (some v :: ρ) (.own xs pn :: Θ)) (next : ∀ I', Env K I' H σ Γ (some v :: ρ) (.im xs :: Θ) → A) : A := by
  obtain ⟨p, vs, _, _, _, _, _, fz⟩ := E.unstack.ownL
  exact next _ ((Env.pop E).toStack fz)
/-! ### reading lists -/
def lGet (xs : List α) (i : Int) : Res α := match atI xs i with | some x => .ok x | none => .bad
theorem atI_paired {f : V → α → Prop} {vs : List V} {xs : List α} (p : Paired f vs xs) {i : Int} {x : α} (h : atI xs i = some x) : ∃ v, atI vs i = some v ∧ f v x := by
  have hl : vs.length = xs.length := Paired.length p
  unfold atI at h ⊢
  rw [hl]
  cases e : ixN xs.length i with
  | none => rw [e] at h; cases h
  | some k =>
    rw [e] at h
    have hx : xs[k]? = some x := h
    have hk := (List.getElem?_eq_some_iff.mp hx).1
    have hv : vs[k]? = some (vs[k]'(by omega)) := List.getElem?_eq_getElem (by omega)
    exact ⟨_, hv, paired_at p hv hx⟩
theorem rp_list {K : PySem.W.Frag} [Rep α] {xs : List α} {v : V} (r : Rep.rp K I v xs) : ∃ a vs, v = .ref a ∧ I a = some (.lst vs) ∧ Paired (fun v x => Rep.rp K I v x) vs xs := r
section
variable [Sca α] {xs : List α}
theorem hf_ix_of {m : Res Int} (hv : ∀ {I H : Hp} {σ ρ : List (Option V)} {Θ : List Cell}, Env K I H σ Γ ρ Θ → ∃ a vs, σ[j]? = some (some (.ref a)) ∧ H a = some (.lst vs) ∧ Paired (fun v x => Rep.rp K I v x) vs xs) (hi : HF K ti Γ m) :
    HF K (tOp (rIxL K) (tVar j) ti) Γ (m.bind fun i => lGet xs i) := .mk fun X Q E q => by
  obtain ⟨a, vs, hs, ha, p⟩ := hv E
  refine ⟨_, hs, hi.run X _ E (wpb q fun i q _ => ?_)⟩
  unfold lGet at q
  cases e : atI xs i with
  | none => rw [e] at q; exact q.elim
  | some x =>
    rw [e] at q
    obtain ⟨w, e2, r⟩ := atI_paired p e
    have r' : w = enc x ∧ okv x := r
    refine ⟨a, vs, i, w, rfl, rfl, SqL.of ha, e2, ?_⟩
    rw [r'.1]
    exact q r'.2
theorem Env.listAt [Rep β] {ys : List β} (E : Env K I H σ Γ ρ Θ) (hΓ : Γ[j]? = some (.im ys)) : ∃ a vs, σ[j]? = some (some (.ref a)) ∧ H a = some (.lst vs) ∧ Paired (fun v x => Rep.rp K I v x) vs ys := by
  obtain ⟨v, hs, a, vs, e, ha, p⟩ := E.get hΓ
  subst e
  exact ⟨a, vs, hs, E.same _ _ ha, p⟩
theorem Env.ownAt' [Rep β] {ys : List β} (E : Env K I H σ Γ ρ Θ) (hΓ : Γ[j]? = some (.own ys pn)) : ∃ a vs, σ[j]? = some (some (.ref a)) ∧ H a = some (.lst vs) ∧ Paired (fun v x => Rep.rp K I v x) vs ys := by
  obtain ⟨p, vs, hs, hp, _, r, _⟩ := E.ownAt hΓ
  exact ⟨p, vs, hs, hp, r⟩
theorem hf_ixL (hΓ : Γ[j]? = some (.im xs)) {m : Res Int} (hi : HF K ti Γ m) : HF K (tOp (rIxL K) (tVar j) ti) Γ (m.bind fun i => lGet xs i) := hf_ix_of (fun E => E.listAt hΓ) hi
theorem hf_ixLp (hΓ : Γ[j]? = some (.im xs)) {i : Int} (hi : HF K ti Γ (.ok i)) : HF K (tOp (rIxL K) (tVar j) ti) Γ (lGet xs i) := hf_ixL hΓ hi
theorem hf_ixO (hΓ : Γ[j]? = some (.own xs pn)) {m : Res Int} (hi : HF K ti Γ m) : HF K (tOp (rIxL K) (tVar j) ti) Γ (m.bind fun i => lGet xs i) := hf_ix_of (fun E => E.ownAt' hΓ) hi
theorem hf_ixOp (hΓ : Γ[j]? = some (.own xs pn)) {i : Int} (hi : HF K ti Γ (.ok i)) : HF K (tOp (rIxL K) (tVar j) ti) Γ (lGet xs i) := hf_ixO hΓ hi
end
abbrev rLen2 (K : PySem.W.Frag) : List V → Hp → VK → Prop := fun xs H Q => ∃ p ys, xs = [.ref p] ∧ (SqL K H p ys ∨ SqT K H p ys) ∧ Q (.int ys.length) H
theorem hf_lenL [Rep α] {xs : List α} (hΓ : Γ[j]? = some (.im xs)) : HF K (tCB (rLen2 K) (tCons (tVar j) tNil)) Γ (.ok ((xs.length : Nat) : Int)) := .mk fun X Q E q => by
  obtain ⟨a, vs, hs, ha, p⟩ := E.listAt hΓ
  refine ⟨_, hs, a, vs, rfl, .inl (SqL.of ha), ?_⟩
  have hl : vs.length = xs.length := Paired.length p
  rw [hl]
  exact q trivial
theorem hf_lenO [Rep α] {xs : List α} (hΓ : Γ[j]? = some (.own xs pn)) : HF K (tCB (rLen2 K) (tCons (tVar j) tNil)) Γ (.ok ((xs.length : Nat) : Int)) := .mk fun X Q E q => by
  obtain ⟨a, vs, hs, ha, p⟩ := E.ownAt' hΓ
  refine ⟨_, hs, a, vs, rfl, .inl (SqL.of ha), ?_⟩
  have hl : vs.length = xs.length := Paired.length p
  rw [hl]
  exact q trivial
theorem hf_lenT [Rep α] {xs : TupL α} (hΓ : Γ[j]? = some (.im xs)) : HF K (tCB (rLen2 K) (tCons (tVar j) tNil)) Γ (.ok ((xs.l.length : Nat) : Int)) := .mk fun X Q E q => by
  obtain ⟨v, hs, a, vs, e, ha, p⟩ := E.get hΓ
  subst e
  refine ⟨_, hs, a, vs, rfl, .inr (same_seqT E.same ha), ?_⟩
  have hl : vs.length = xs.l.length := Paired.length p
  rw [hl]
  exact q trivial
/-- len of what is on the stack -/
theorem st_lenL [Rep α] {xs : List α} (E : Env K I H σ Γ (some v :: ρ) (.im xs :: Θ)) (next : ∀ v, Env K I H σ Γ (some v :: ρ) (.im ((xs.length : Nat) : Int) :: Θ) → Q v H) : CbG (rLen2 K) [v] H Q := by
  obtain ⟨a, vs, e, ha, p⟩ := E.topR
  subst e
  have hl : vs.length = xs.length := Paired.length p
  exact ⟨a, vs, rfl, .inl (SqL.of (E.same _ _ ha)), next _ (E.pop.pushS (a := ((vs.length : Nat) : Int)) trivial |> fun z => by rw [← hl]; exact z)⟩
/-- xs[i], both on the stack -/
theorem st_ixL [Rep α] {xs : List α} {i : Int} {k : α → Res ω} (E : Env K I H σ Γ (some v2 :: some v1 :: ρ) (.im i :: .im xs :: Θ)) (h : wp ((lGet xs i).bind k) P X)
    (next : ∀ x v, Env K I H σ Γ (some v :: ρ) (.im x :: Θ) → wp (k x) P X → Q v H) : OpG (rIxL K) v1 v2 H Q := by
  obtain ⟨e2, _⟩ := E.topS
  subst e2
  obtain ⟨a, vs, e, ha, p⟩ := E.pop.topR
  subst e
  unfold lGet at h
  cases e : atI xs i with
  | none => rw [e] at h; exact h.elim
  | some x =>
    rw [e] at h
    obtain ⟨w, e2, r⟩ := atI_paired p e
    exact ⟨a, vs, i, w, rfl, rfl, SqL.of (E.same _ _ ha), e2, next x w (E.pop.pop.push r) h⟩
/-- xs[lo:hi] -/
theorem cutV_cutL (vs : List V) (lo hi : Option Int) : cutV vs lo hi = cutL vs lo hi := rfl
theorem cut_paired {f : V → α → Prop} {vs : List V} {xs : List α} (p : Paired f vs xs) (lo hi : Option Int) : Paired f (cutL vs lo hi) (cutL xs lo hi) := by
  have hl : vs.length = xs.length := Paired.length p
  unfold cutL
  rw [hl]
  have dr : ∀ {vs : List V} {xs : List α} (n : Nat), Paired f vs xs → Paired f (vs.drop n) (xs.drop n) := by
    intro vs xs n q
    induction q generalizing n with
    | nil => simp; exact .nil
    | cons r t ih =>
      cases n with
      | zero => exact .cons r t
      | succ n => exact ih n
  have tk : ∀ {vs : List V} {xs : List α} (n : Nat), Paired f vs xs → Paired f (vs.take n) (xs.take n) := by
    intro vs xs n q
    induction q generalizing n with
    | nil => simp; exact .nil
    | cons r t ih =>
      cases n with
      | zero => exact .nil
      | succ n => exact .cons r (ih n)
  exact tk _ (dr _ p)
theorem st_cutI [Rep α] {xs : List α} {tl th : TO} {ml mh : Res (Option Int)} {k : List α → Res ω} (E : Env K I H σ Γ (some v :: ρ) (.im xs :: Θ)) (hl : HSl K tl Γ ml) (hh : HSl K th Γ mh) (h : wp (ml.bind fun lo => mh.bind fun hi => k (cutL xs lo hi)) P X)
    (next : ∀ ys I' H' v, Env K I' H' σ Γ (some v :: ρ) (.im ys :: Θ) → wp (k ys) P X → Q v H') : tl σ H fun l H2 => th σ H2 fun u H3 => rSlL K v l u H3 Q :=
  hl.run X _ E (wpb h fun lo h => hh.run X _ E (wpb h fun hi h => by
    obtain ⟨a, vs, e, ha, p⟩ := E.topR
    subst e
    exact ⟨a, vs, rfl, SqL.of (E.same _ _ ha), st_newI (Env.pop E) (cut_paired p lo hi) fun I' H' v E' => next _ I' H' v E' h⟩))
theorem st_cutO [Rep α] {xs : List α} {tl th : TO} {ml mh : Res (Option Int)} {k : List α → Res ω} (E : Env K I H σ Γ (some v :: ρ) (.im xs :: Θ)) (hl : HSl K tl Γ ml) (hh : HSl K th Γ mh) (h : wp (ml.bind fun lo => mh.bind fun hi => k (cutL xs lo hi)) P X)
    (next : ∀ ys I' H' v, Env K I' H' σ Γ (some v :: ρ) (.own ys :: Θ) → wp (k ys) P X → Q v H') : tl σ H fun l H2 => th σ H2 fun u H3 => rSlL K v l u H3 Q :=
  hl.run X _ E (wpb h fun lo h => hh.run X _ E (wpb h fun hi h => by
    obtain ⟨a, vs, e, ha, p⟩ := E.topR
    subst e
    exact ⟨a, vs, rfl, SqL.of (E.same _ _ ha), st_newO (Env.pop E) (cut_paired p lo hi) fun H' v E' => next _ _ H' v E' h⟩))
/-! ### changing lists -/
noncomputable def lApp (xs : List α) (x : α) : Res (List α) := clo (if xs.length < line then .ok (xs ++ [x]) else .bad)
theorem paired_app {f : V → α → Prop} {vs ws : List V} {xs ys : List α} (p : Paired f vs xs) (q : Paired f ws ys) : Paired f (vs ++ ws) (xs ++ ys) := by
  induction p with
  | nil => exact q
  | cons r t ih => exact .cons r ih
theorem st_bmO [Rep α] {xs : List α} {r : V → List V → Hp → VK → Prop} (E : Env K I H σ Γ ρ Θ) (hΓ : Γ[i]? = some (.own xs pn)) (next : ∀ l, σ[i]? = some (some (.ref l)) → ta σ H fun vs H2 => r (.ref l) vs H2 Q) : tBM K "list" r (tVar i) ta σ H Q := by
  obtain ⟨p, vs, hs, hp, _⟩ := E.ownAt' hΓ
  exact ⟨_, hs, .inl ⟨rfl, vs, SqL.of hp⟩, next p hs⟩
theorem st_bm0O [Rep α] {xs : List α} {r : V → List V → Hp → VK → Prop} (E : Env K I H σ Γ ρ Θ) (hΓ : Γ[i]? = some (.own xs pn)) (next : ∀ l, σ[i]? = some (some (.ref l)) → r (.ref l) [] H Q) : tBM0 K "list" r (tVar i) σ H Q := by
  obtain ⟨p, vs, hs, hp, _⟩ := E.ownAt' hΓ
  exact ⟨_, hs, .inl ⟨rfl, vs, SqL.of hp⟩, next p hs⟩
theorem st_app [Rep α] {xs : List α} {x : α} {k : List α → Res ω} {l : Addr} (E : Env K I H σ Γ (some v :: ρ) (.im x :: Θ)) (hl : σ[i]? = some (some (.ref l))) (hΓ : Γ[i]? = some (.own xs pn)) (h : wp ((lApp xs x).bind k) P X)
    (next : ∀ ys H', Env K I H' σ (Γ.set i (.own ys pn)) ρ Θ → wp (k ys) P X → Q .non H') : rAppend (.ref l) [v] H Q := by
  obtain ⟨p, vs, hs, hp, _, q, ch, _⟩ := E.ownAt hΓ
  have e : l = p := by
    rw [hl] at hs
    exact V.ref.inj (Option.some.inj (Option.some.inj hs))
  subst e
  have rx := E.topR
  unfold lApp at h
  rw [clo_eq] at h
  by_cases hz : xs.length < line
  · rw [if_pos hz] at h
    have hlen : vs.length = xs.length := Paired.length q
    exact ⟨l, vs, v, rfl, rfl, hp, by rw [hlen, ← line_eq]; exact hz, next _ _ (ch (Grow.refl E.same) _ _ (paired_app q (.cons rx .nil))).pop h⟩
  · rw [if_neg hz] at h
    exact h.elim
end
end M
namespace M
open PySem PySem.Spec PyProof.Rows L2
/-! ### comprehensions with one plain name as target -/
def mapR {α β : Type} (f : α → Res β) : List α → Res (List β)
  | [] => .ok []
  | x :: xs => (f x).bind fun y => (mapR f xs).bind fun ys => .ok (y :: ys)
def filR {α β : Type} (t : α → Res Bool) (f : α → Res β) : List α → Res (List β)
  | [] => .ok []
  | x :: xs => (t x).bind fun b => if b = true then (f x).bind fun y => (filR t f xs).bind fun ys => .ok (y :: ys) else filR t f xs
/-- the length of what is walked is below the line: told once -/
noncomputable def lcR {α β : Type} (t : α → Res Bool) (f : α → Res β) (xs : List α) : Res (List β) := clo (if xs.length ≤ line then filR t f xs else .bad)
noncomputable def lcM {α β : Type} (f : α → Res β) (xs : List α) : Res (List β) := clo (if xs.length ≤ line then mapR f xs else .bad)
theorem mapR_fil {α β : Type} (f : α → Res β) (xs : List α) : mapR f xs = filR (fun _ => .ok true) f xs := by
  induction xs with
  | nil => rfl
  | cons x xs ih =>
    show (f x).bind _ = (f x).bind _
    rw [ih]
theorem lcM_lcR {α β : Type} (f : α → Res β) (xs : List α) : lcM f xs = lcR (fun _ => .ok true) f xs := by
  unfold lcM lcR
  rw [clo_eq, clo_eq, mapR_fil]
section
variable {K : PySem.W.Frag} {mg : Str → Option Value} {I H I' H' : Hp} {σ σ' ρ : List (Option V)} {Γ Γ' Θ : List Cell} {i j n : Nat} {v v1 v2 v3 : V} {c c1 c2 : Cell} {o : Option V} {te tl ti : TE} {ta : TA} {tt : TT} {t u : TS} {dn db dc : L2.St → Hp → Prop} {dr : VK} {Q : VK} {W : WX}
variable {ω : Type} {P : ω → Prop} {X : Exn → Prop} {α β γ δ : Type}
/-- a slot's entry is put aside -/
theorem Env.aside (E : Env K I H σ Γ ρ Θ) (h : Γ[i]? = some c) : ∃ o, σ[i]? = some o ∧ Env K I H (σ.set i none) (Γ.set i .any) (o :: ρ) (c :: Θ) := by
  obtain ⟨o, r, ho, e, back⟩ := E.pick h
  refine ⟨o, ho, ?_⟩
  obtain ⟨o2, ho2⟩ := E.slot h
  obtain ⟨r2, p1, p2⟩ := perm_at (zip_at ho h)
  refine ⟨by simp [E.1], by simp [E.2.1], ?_⟩
  rw [zip_set]
  have q : EnvL K I H ((o, c) :: (r2 ++ ρ.zip Θ)) := E.2.2.perm (p1.append_right _)
  have q2 : EnvL K I H ((none, Cell.any) :: (o, c) :: (r2 ++ ρ.zip Θ)) := q.any
  have pp : ((none, Cell.any) :: (o, c) :: (r2 ++ ρ.zip Θ)).Perm ((σ.zip Γ).set i (none, Cell.any) ++ (o :: ρ).zip (c :: Θ)) := by
    have a1 : ((σ.zip Γ).set i (none, Cell.any) ++ (o :: ρ).zip (c :: Θ)).Perm (((none, Cell.any) :: r2) ++ ((o, c) :: ρ.zip Θ)) := (p2 _).append_right _
    refine List.Perm.trans ?_ a1.symm
    refine List.Perm.cons _ ?_
    exact List.perm_middle.symm
  exact q2.perm pp
/-- .. and put back -/
theorem Env.again (E : Env K I H (σ.set i o) (Γ.set i .any) (o' :: ρ) (c :: Θ)) (ho : σ[i]? = some o') (h : Γ[i]? = some c) : Env K I H σ Γ ρ Θ := by
  have hi : i < Γ.length := (List.getElem?_eq_some_iff.mp h).1
  have q := Env.store (i := i) E (by simpa using hi) rfl
  rw [List.set_set, List.set_set, set_same ho, set_same h] at q
  exact q
theorem Env.anyOf (E : Env K I H σ (Γ.set i .any) ρ Θ) (hi : i < Γ.length) : Env K I H (σ.set i none) (Γ.set i .any) ρ Θ := by
  have h : (Γ.set i .any)[i]? = some .any := List.getElem?_set_self hi
  obtain ⟨o, ho, q⟩ := E.aside h
  have q2 := q.pop
  rw [List.set_set] at q2
  exact q2
theorem wkAny : ∀ {Γ : List Cell} {i : Nat}, Wk Γ (Γ.set i .any)
  | [], _ => trivial
  | c :: Γ, 0 => ⟨.inl rfl, by
    have all : ∀ Γ : List Cell, Wk Γ Γ := by
      intro Γ
      induction Γ with
      | nil => trivial
      | cons c Γ ih => exact ⟨.inr rfl, ih⟩
    exact all Γ⟩
  | c :: Γ, i + 1 => ⟨.inr rfl, wkAny (Γ := Γ) (i := i)⟩
theorem mapR_at {f : α → Res β} {xs : List α} {x : α} (hx : xs[i]? = some x) : mapR f (xs.drop i) = (f x).bind fun y => (mapR f (xs.drop (i + 1))).bind fun ys => .ok (y :: ys) := by
  obtain ⟨hi, e⟩ := List.getElem?_eq_some_iff.mp hx
  rw [List.drop_eq_getElem_cons hi, e]
  rfl
theorem filR_at {t : α → Res Bool} {f : α → Res β} {xs : List α} {x : α} (hx : xs[i]? = some x) : filR t f (xs.drop i) = (t x).bind fun b => if b = true then (f x).bind fun y => (filR t f (xs.drop (i + 1))).bind fun ys => .ok (y :: ys) else filR t f (xs.drop (i + 1)) := by
  obtain ⟨hi, e⟩ := List.getElem?_eq_some_iff.mp hx
  rw [List.drop_eq_getElem_cons hi, e]
  rfl
theorem wipe1 (σ : L2.St) (i : Nat) : wipe σ [i] = σ.set i none := rfl
/-- [e for x in xs if t], made to be owned -/
theorem st_lcf [Rep α] [Rep β] {xs : List α} {J : It} {ρe : List (Option V)} {Θe : List Cell} {t : α → Res Bool} {f : α → Res β} {k : List β → Res ω} (hJ : Feeds K J xs ρe Θe)
    (E : Env K I H σ Γ (ρe ++ ρ) (Θe ++ Θ)) (hΓ : Γ[i]? = some c) (h : wp ((lcR t f xs).bind k) P X)
    (next : ∀ ys I' H' v, Env K I' H' σ Γ (some v :: ρ) (.own ys :: Θ) → wp (k ys) P X → Q v H')
    (turn : ∀ x I' H' σ' ρ' Θ' (Qt : Bool → Hp → Prop), Env K I' H' σ' (Γ.set i (.im x)) ρ' Θ' → wp (t x) (fun b => ∀ I'' H'', Env K I'' H'' σ' (Γ.set i (.im x)) ρ' Θ' → Qt b H'') X → tt σ' H' Qt)
    (elt : ∀ x I' H' σ' ρ' Θ' (Qe : VK), Env K I' H' σ' (Γ.set i (.im x)) ρ' Θ' → wp (f x) (fun z => ∀ I'' H'' w, Env K I'' H'' σ' (Γ.set i (.im x)) (some w :: ρ') (.im z :: Θ') → Qe w H'') X → te σ' H' Qe) :
    LcG J (gName i) tt te [i] σ H Q := by
  intro D hD
  have hi : i < Γ.length := (List.getElem?_eq_some_iff.mp hΓ).1
  unfold lcR at h
  rw [clo_eq] at h
  by_cases hz : xs.length ≤ line
  case neg =>
    rw [if_neg hz] at h
    exact h.elim
  rw [if_pos hz] at h
  obtain ⟨o, ho, E1⟩ := E.aside hΓ
  have E2 := E1.newL (α := β) (vs := []) (xs := []) hD .nil
  -- the state: the list so far on top
  refine ⟨fun n m H' => m = xs.length - n ∧ n ≤ xs.length ∧ ∃ acc I', acc.length ≤ n ∧ Env K I' H' (σ.set i none) (Γ.set i .any) (some (.ref D) :: o :: (ρe ++ ρ)) (.own acc :: c :: (Θe ++ Θ)) ∧
    wp ((filR t f (xs.drop n)).bind fun ys => k (acc ++ ys)) P X, ⟨xs.length, by simp, Nat.zero_le _, [], I, Nat.le_refl _, E2, h⟩, ?_⟩
  rintro n m H' ⟨rfl, hn, acc, I', ha, E', h'⟩
  -- the walk's entries, seen
  have EJ : Env K I' H' (σ.set i none) (Γ.set i .any) (ρe ++ (some (.ref D) :: o :: ρ)) (Θe ++ (.own acc :: c :: Θ)) := by
    refine ⟨E'.1, ?_, E'.2.2.perm ((List.Perm.refl _).append ?_)⟩
    · have := E'.2.1
      have l := hJ.len
      simp only [List.length_append, List.length_cons] at this ⊢
      omega
    · have l := hJ.len
      show (((some (V.ref D), Cell.own acc) :: (o, c) :: ((ρe ++ ρ).zip (Θe ++ Θ)))).Perm _
      rw [List.zip_append l, List.zip_append l]
      show ((some (V.ref D), Cell.own acc) :: (o, c) :: (ρe.zip Θe ++ ρ.zip Θ)).Perm (ρe.zip Θe ++ ((some (V.ref D), Cell.own acc) :: (o, c) :: ρ.zip Θ))
      exact ((List.perm_middle.symm).cons _ |>.trans List.perm_middle.symm)
  by_cases hlt : n < xs.length
  · have hx : xs[n]? = some xs[n] := List.getElem?_eq_getElem hlt
    rw [filR_at hx, Res.bind_assoc] at h'
    refine .inr ⟨hJ.go n EJ hlt, fun H2 => ∃ acc I', acc.length ≤ n + 1 ∧ Env K I' H2 (σ.set i none) (Γ.set i .any) (some (.ref D) :: o :: (ρe ++ ρ)) (.own acc :: c :: (Θe ++ Θ)) ∧
      wp ((filR t f (xs.drop (n + 1))).bind fun ys => k (acc ++ ys)) P X, fun H2 z => ⟨xs.length - (n + 1), by omega, rfl, hlt, z⟩, fun y H2 hyl => ?_⟩
    obtain ⟨I2, g2, ry⟩ := hJ.yld n y H2 _ EJ hx hyl
    have E3 := ((E'.grow g2).push ry).store (i := i) (Γ' := Γ.set i (.im xs[n])) (by simpa using hi) (by rw [List.set_set])
    refine ⟨by show ((wipe σ [i]).set i (some y)).set i none = wipe σ [i]; rw [wipe1, List.set_set, List.set_set], ?_⟩
    have back : ∀ {I3 H3 : Hp} {ρ' : List (Option V)} {Θ' : List Cell}, Env K I3 H3 ((wipe σ [i]).set i (some y)) (Γ.set i (.im xs[n])) ρ' Θ' → Env K I3 H3 (σ.set i none) (Γ.set i .any) ρ' Θ' := by
      intro I3 H3 ρ' Θ' Z
      have z1 := Z.weak (wkAny (i := i))
      rw [List.set_set] at z1
      have z2 := Env.anyOf z1 hi
      rw [wipe1, List.set_set, List.set_set] at z2
      exact z2
    refine turn xs[n] I2 H2 _ _ _ _ E3 (wpb h' fun b h' I3 H3 E4 => ?_)
    cases b with
    | false => exact ⟨acc, I3, by omega, back E4, h'⟩
    | true =>
      have h2 : wp (((f xs[n]).bind fun y => (filR t f (xs.drop (n + 1))).bind fun ys => .ok (y :: ys)).bind fun ys => k (acc ++ ys)) P X := h'
      rw [Res.bind_assoc] at h2
      refine elt xs[n] I3 H3 _ _ _ _ E4 (wpb h2 fun z h2 I4 H4 w E5 => ?_)
      rw [Res.bind_assoc] at h2
      have E6 := back E5
      have rz := E6.topR
      obtain ⟨p, vs, e1, hp, _, q, ch, _⟩ := E6.pop.unstack.ownL
      cases e1
      have hlen : vs.length = acc.length := Paired.length q
      refine ⟨vs, hp, by rw [hlen, ← line_eq]; omega, acc ++ [z], I4, by rw [List.length_append]; simp; exact ha, ?_, ?_⟩
      · exact E6.pop.pop.toStack (ch (Grow.refl E6.same) _ _ (paired_app q (.cons rz .nil)))
      · have e : (fun ys => k (acc ++ z :: ys)) = fun ys => k ((acc ++ [z]) ++ ys) := by
          funext ys
          rw [List.append_assoc]
          rfl
        rw [← e]
        exact h2
  · have e : n = xs.length := by omega
    subst e
    rw [List.drop_eq_nil_of_le (Nat.le_refl _)] at h'
    have h' : wp (k (acc ++ [])) P X := h'
    rw [List.append_nil] at h'
    refine .inl ⟨hJ.stop _ EJ (Nat.le_refl _), next acc I' H' _ ?_ h'⟩
    -- the entry back, the walk's entries gone
    have E7 : Env K I' H' (σ.set i none) (Γ.set i .any) (ρe ++ (o :: some (.ref D) :: ρ)) (Θe ++ (c :: .own acc :: Θ)) := by
      refine ⟨EJ.1, by have := EJ.2.1; simp only [List.length_append, List.length_cons] at this ⊢; omega, EJ.2.2.perm ((List.Perm.refl _).append ?_)⟩
      rw [List.zip_append hJ.len, List.zip_append hJ.len]
      exact (List.Perm.refl _).append (.swap _ _ _)
    exact (E7.drops hJ.len).again ho hΓ
/-- [e for x in xs] -/
theorem st_lcm [Rep α] [Rep β] {xs : List α} {J : It} {ρe : List (Option V)} {Θe : List Cell} {f : α → Res β} {k : List β → Res ω} (hJ : Feeds K J xs ρe Θe)
    (E : Env K I H σ Γ (ρe ++ ρ) (Θe ++ Θ)) (hΓ : Γ[i]? = some c) (h : wp ((lcM f xs).bind k) P X)
    (next : ∀ ys I' H' v, Env K I' H' σ Γ (some v :: ρ) (.own ys :: Θ) → wp (k ys) P X → Q v H')
    (elt : ∀ x I' H' σ' ρ' Θ' (Qe : VK), Env K I' H' σ' (Γ.set i (.im x)) ρ' Θ' → wp (f x) (fun z => ∀ I'' H'' w, Env K I'' H'' σ' (Γ.set i (.im x)) (some w :: ρ') (.im z :: Θ') → Qe w H'') X → te σ' H' Qe) :
    LcG J (gName i) tYes te [i] σ H Q := by
  rw [lcM_lcR] at h
  exact st_lcf hJ E hΓ h next (fun x I' H' σ' ρ' Θ' Qt E' q => q I' H' E') elt
end
theorem mapR_nil {α β : Type} {f : α → Res β} : mapR f [] = .ok [] := rfl
theorem mapR_cons {α β : Type} {f : α → Res β} {x : α} {xs : List α} : mapR f (x :: xs) = (f x).bind fun y => (mapR f xs).bind fun ys => .ok (y :: ys) := rfl
theorem filR_nil {α β : Type} {t : α → Res Bool} {f : α → Res β} : filR t f [] = .ok [] := rfl
theorem filR_cons {α β : Type} {t : α → Res Bool} {f : α → Res β} {x : α} {xs : List α} : filR t f (x :: xs) = (t x).bind fun b => if b = true then (f x).bind fun y => (filR t f xs).bind fun ys => .ok (y :: ys) else filR t f xs := rfl
end M
namespace M
open PySem PySem.Spec PyProof.Rows L2
section
variable {K : PySem.W.Frag} {mg : Str → Option Value} {I H I' H' : Hp} {σ σ' ρ ρ' : List (Option V)} {Γ Γ' Θ Θ' : List Cell} {i j n : Nat} {v v0 v1 v2 v3 : V} {c c1 c2 : Cell} {o : Option V} {te tl ti : TE} {ta : TA} {tt : TT} {t u : TS} {dn db dc : L2.St → Hp → Prop} {dr : VK} {Q : VK} {W : WX}
variable {pn : Option V} {ω : Type} {P : ω → Prop} {X : Exn → Prop} {α β γ δ : Type}
theorem Env.sperm (E : Env K I H σ Γ ρ Θ) (l : ρ'.length = Θ'.length) (p : (ρ.zip Θ).Perm (ρ'.zip Θ')) : Env K I H σ Γ ρ' Θ' := ⟨E.1, l, E.2.2.perm (p.append_left _)⟩
theorem st_callO' {X1 : Exn → Prop} {S A B : Type} [Own S] {cells : A → List Cell} {m : S → A → Res (B × S)} {oc : B → Cell} {vs : List V} {s : S} (a : A) {k : B × S → Res ω} (hΓ : Γ[i]? = some (.own s pn)) (h0 : σ[i]? = some (some v0))
    (E : Env K I H σ Γ ((vs.map some).reverse ++ ρ) ((cells a).reverse ++ Θ)) (hn : vs.length = n) (hc : (cells a).length = n)
    (h : wp (m s a) (fun b => wp (k b) P X) X1) (hX : ∀ e, X1 e → XWish K mg W σ (Γ.set i .any) ρ Θ e)
    (next : ∀ b I' H' v, Env K I' H' σ (Γ.set i (.own b.2 pn)) (some v :: ρ) (oc b.1 :: Θ) → wp (k b) P X → Q v H') : SpO K mg n cells m oc (v0 :: vs) H Q (WE W σ) := by
  have hi : i < Γ.length := (List.getElem?_eq_some_iff.mp hΓ).1
  obtain ⟨o, ho, E1⟩ := E.aside hΓ
  have eo : o = some v0 := Option.some.inj (ho.symm.trans h0)
  subst eo
  have hpin := E1.unstack.pin
  have E1 := (Env.pop E1).toStack (E1.unstack.repin (pn' := some v0) fun w e => Option.some.inj e)
  have lr : (vs.map some).reverse.length = (cells a).reverse.length := by simp [hn, hc]
  have l2 := E.2.1
  have E2 : Env K I H (σ.set i none) (Γ.set i .any) (((v0 :: vs).map some).reverse ++ ρ) ((Cell.own s (some v0) :: cells a).reverse ++ Θ) := by
    refine E1.sperm (by simp only [List.length_append, List.length_reverse, List.length_map, List.length_cons] at l2 ⊢; omega) ?_
    have e1 : ((v0 :: vs).map some).reverse ++ ρ = (vs.map some).reverse ++ (some v0 :: ρ) := by simp
    have e2 : (Cell.own s (some v0) :: cells a).reverse ++ Θ = (cells a).reverse ++ (Cell.own s (some v0) :: Θ) := by simp
    rw [e1, e2, List.zip_append lr, List.zip_cons_cons, List.zip_append lr, List.zip_cons_cons]
    exact List.perm_middle.symm
  have E3 := E2.enter (vs := (v0 :: vs).map some) (cs := Cell.own s (some v0) :: cells a) (by simp [hn, hc])
  have ls : (σ.set i none).length = (Γ.set i Cell.any).length := by simp [E.1]
  refine ⟨by simp [hn], s, a, I, _, _, E3, ?_⟩
  refine wp_mono h (fun b q I' H' v E' => ?_) fun e x I' H' cls d hm E' => ?_
  · have E4 : Env K I' H' (σ.set i none) (Γ.set i .any) (some v0 :: some v :: ρ) (.own b.2 pn :: oc b.1 :: Θ) := by
      have lz := E'.2.1
      simp only [List.length_cons, List.length_append] at lz
      have E'2 : EnvL K I' H' ((some v0, .own b.2 (some v0)) :: ((some v :: (σ.set i none ++ ρ)).zip (oc b.1 :: (Γ.set i Cell.any ++ Θ)))) := E'.2.2
      refine ⟨ls, by simp only [List.length_cons]; omega, (E'2.repin hpin).perm ?_⟩
      have e3 : ((some v :: (σ.set i none ++ ρ)).zip (oc b.1 :: (Γ.set i Cell.any ++ Θ))) = (some v, oc b.1) :: ((σ.set i none).zip (Γ.set i .any) ++ ρ.zip Θ) := by
        rw [List.zip_cons_cons, List.zip_append ls]
      show (((some v0, Cell.own b.2 pn) :: []) ++ ((some v :: (σ.set i none ++ ρ)).zip (oc b.1 :: (Γ.set i Cell.any ++ Θ)))).Perm _
      rw [e3]
      show ((some v0, Cell.own b.2 pn) :: (some v, oc b.1) :: ((σ.set i none).zip (Γ.set i .any) ++ ρ.zip Θ)).Perm ((σ.set i none).zip (Γ.set i .any) ++ ((some v0, Cell.own b.2 pn) :: (some v, oc b.1) :: ρ.zip Θ))
      exact ((List.perm_middle.symm).cons _).trans List.perm_middle.symm
    have E5 := E4.store (i := i) (by simpa using hi) rfl
    rw [List.set_set, List.set_set, set_same h0] at E5
    exact next b I' H' v E5 q
  · have E4 := E'.leave (σ := σ.set i none) (Γ := Γ.set i .any) ls
    have E5 : Env K I' H' σ (Γ.set i .any) (some d :: ρ) (.im (XD.mk e.fs) :: Θ) := by
      have q := Env.store (i := i) (c := .any) (o := some v0) (E4.toStack E4.2.2.any) (by simpa using hi) rfl
      rw [List.set_set, List.set_set, set_same h0] at q
      exact q
    exact hX e x I' H' cls d hm E5
theorem st_callO {S A B : Type} [Own S] {cells : A → List Cell} {m : S → A → Res (B × S)} {oc : B → Cell} {vs : List V} {s : S} (a : A) {k : B × S → Res ω} (hΓ : Γ[i]? = some (.own s pn)) (h0 : σ[i]? = some (some v0))
    (E : Env K I H σ Γ ((vs.map some).reverse ++ ρ) ((cells a).reverse ++ Θ)) (hn : vs.length = n) (hc : (cells a).length = n)
    (h : wp ((m s a).bind k) P X) (hX : ∀ e, X e → XWish K mg W σ (Γ.set i .any) ρ Θ e)
    (next : ∀ b I' H' v, Env K I' H' σ (Γ.set i (.own b.2 pn)) (some v :: ρ) (oc b.1 :: Θ) → wp (k b) P X → Q v H') : SpO K mg n cells m oc (v0 :: vs) H Q (WE W σ) :=
  st_callO' a hΓ h0 E hn hc (wp_bind.mp h) hX next
/-- the first argument, an owned one: its value -/
theorem st_varO [Own α] {a : α} {Q : VK} (E : Env K I H σ Γ ρ Θ) (hΓ : Γ[i]? = some (.own a pn)) (next : ∀ v, σ[i]? = some (some v) → Q v H) : tVar i σ H Q := by
  obtain ⟨o, r, ho, e, _⟩ := E.pick hΓ
  obtain ⟨_, fs, h1, _⟩ := e
  cases fs with
  | nil => exact h1.elim
  | cons f fs =>
    obtain ⟨v, e1, _, _⟩ := h1.1
    have e1 : o = some v := e1
    subst e1
    exact ⟨v, ho, next v ho⟩
end
/-! ### calls with keywords, what is raised wished for at the caller's slots -/
section
variable {X : Cx} {CX : CXT} {k : Nat} {f : Addr} {fd : FuncData} {ps : List Str} {sp : Sp} {E : L2.St → XK} {x : Str} {p pos : Pos} {e : Expr} {es : List Expr} {ta : TE} {t tk : TA} {ks : List Str} {kws : List Keyword} {g : List Value → List Value → List Value} {gV : List V → List V → List V}
def tCallKS (n m : Nat) (sp : Sp) (gV : List V → List V → List V) (E : L2.St → XK) (t tk : TA) : TE := fun σ H Q => t σ H fun vs H1 => tk σ H1 fun zs H2 => vs.length = n ∧ zs.length = m ∧ sp (gV vs zs) H2 Q (E σ)
theorem run_fnKS {n : Nat} {pins : List (Addr × Obj)} {σ : L2.St} {H : Hp} {s : Shared} {Q : VK} {us ws : List Value} {vs zs : List V} (F : FnOk X.prog X.w X.K X.mg X.base CX k f fd ps sp) (hr : Room k X.A) (hb : KBn X.K fd ps n ks g gV) (hx : PassesAt CX X σ (E σ))
    (I : Inv X pins σ H s) (r : Vals vs us) (rz : Vals zs ws) (l1 : vs.length = n) (l2 : zs.length = ks.length) (h : sp (gV vs zs) H Q (E σ)) : wpAny (model X.prog X.w) X.A (call (.ref f) us (ks.zip ws)) (EP X pins σ Q) X.xe s := by
  have r2 := hb.rel r rz
  refine wpAny_call (codeAny_mono (F.run X.A X.stack s H ⟨us, ks.zip ws⟩ (g us ws) (gV vs zs) Q (E σ) hr I.env0 (hb.to s us ws I.kIn (r.length.symm.trans l1) (rz.length.symm.trans l2)) r2 h) fun r s' hq => ?_)
  cases r with
  | error e => exact hx pins H s e s' I hq
  | ok fl =>
    cases fl with
    | ret u => exact I.after hq
    | next => exact False.elim hq
    | brk => exact False.elim hq
    | cont => exact False.elim hq
theorem pe_callKS {n : Nat} (F : FnOk X.prog X.w X.K X.mg X.base CX k f fd ps sp) (hr : Room k X.A) (hg : Gl X x) (hm : X.mg x = some (.ref f)) (hk : PySem.W.keepIn X.K (.ref f) = true) (hb : KBn X.K fd ps n ks g gV) (hx : ∀ σ, PassesAt CX X σ (E σ))
    (ha : PA X (e :: es) t) (hkw : PK X kws tk) (hall : (backToKw pos (keywordEach kws X.env)).all (·.1.isSome) = true := by rfl) (hks : (backToKw pos (keywordEach kws X.env)).filterMap (·.1) = ks := by rfl)
    (hdb : (x == ("__debug__" : Str)) = false := by decide) (he : starEach (e :: es) X.env = (false, eval e X.env) :: starEach es X.env := by rfl)
    (hpl : ((backTo pos (starEach (e :: es) X.env)).any (·.1) || (backToKw pos (keywordEach kws X.env)).any (·.1.isNone)) = false := by rfl) :
    PE X (.Call (.Name x p) (e :: es) kws pos) (tCallKS n ks.length sp gV E t tk) := by
  refine ⟨fun pins s σ H Q I h => ?_⟩
  refine wpAny_Call_Name_kw (ld_glob I hg hm ?_ hdb)
  refine PySem.W.callWith_KW (h₀ := X.base) I.ok.mod.kin hk hall (thn (ha.run pos pins s σ H _ I h) fun us s1 ⟨vs, H1, I1, r, q⟩ => ?_) hpl he
  refine thn (hkw.run pos pins s1 σ H1 _ I1 q) fun ws s2 ⟨zs, H2, I2, rz, l1, l2, q2⟩ => ⟨I2.kIn, ?_⟩
  rw [hks]
  exact run_fnKS F hr hb (hx σ) I2 r rz l1 l2 q2
/-- keywords alone -/
theorem pe_callKS0 (F : FnOk X.prog X.w X.K X.mg X.base CX k f fd ps sp) (hr : Room k X.A) (hg : Gl X x) (hm : X.mg x = some (.ref f)) (hk : PySem.W.keepIn X.K (.ref f) = true) (hb : KBn X.K fd ps 0 ks g gV) (hx : ∀ σ, PassesAt CX X σ (E σ))
    (hkw : PK X kws tk) (hall : (backToKw pos (keywordEach kws X.env)).all (·.1.isSome) = true := by rfl) (hks : (backToKw pos (keywordEach kws X.env)).filterMap (·.1) = ks := by rfl)
    (hdb : (x == ("__debug__" : Str)) = false := by decide) (hpl : (backToKw pos (keywordEach kws X.env)).any (·.1.isNone) = false := by rfl) :
    PE X (.Call (.Name x p) [] kws pos) (tCallKS 0 ks.length sp gV E tNil tk) := by
  refine ⟨fun pins s σ H Q I h => ?_⟩
  refine wpAny_Call_Name_kw (ld_glob I hg hm ?_ hdb)
  refine PySem.W.callWith_KW0 (h₀ := X.base) I.ok.mod.kin hk hall ?_ hpl
  refine thn (hkw.run pos pins s σ H _ I h) fun ws s2 ⟨zs, H2, I2, rz, l1, l2, q2⟩ => ⟨I2.kIn, ?_⟩
  rw [hks]
  exact run_fnKS (us := []) (vs := []) F hr hb (hx σ) I2 .nil rz rfl l2 q2
end
/-- values by their places: the positional ones, then the keywords' -/
def gI {α : Type} (ix : List Nat) (us ws : List α) : List α := ix.filterMap fun i => (us ++ ws)[i]?
theorem gI_rel {ix : List Nat} {vs zs : List V} {us ws : List Value} (r : Vals vs us) (rz : Vals zs ws) : Vals (gI ix vs zs) (gI ix us ws) := by
  have q := r.append rz
  unfold gI
  induction ix with
  | nil => exact .nil
  | cons i ix ih =>
    cases e : (vs ++ zs)[i]? with
    | none =>
      rw [List.filterMap_cons_none e, List.filterMap_cons_none (q.none_of e)]
      exact ih
    | some v =>
      obtain ⟨u, e2, ru⟩ := q.get e
      rw [List.filterMap_cons_some e, List.filterMap_cons_some e2]
      exact .cons ru ih
theorem kbn_of {K : PySem.W.Frag} {x qual : Str} {st : Stmt} {f : Addr} {fd : FuncData} {ps ks : List Str} {n : Nat} (ix : List Nat) (F : Fun K x qual st f fd)
    (h : ∀ (kV doc pm : Value) (an : Option Addr) (cdv ct : Value) (us ws : List Value), us.length = n → ws.length = ks.length → bindArgs (PySem.W.fnOf x qual (defArgs st) (defBody st) (defScope st) .none kV doc pm an cdv ct) ⟨us, ks.zip ws⟩ = pure (ps.zip (gI ix us ws))) :
    KBn K fd ps n ks (gI ix) (gI ix) := by
  obtain ⟨oc, od, kV, doc, pm, an, cdv, ct, osl, rfl, lk, hcd⟩ := F.ex
  exact ⟨fun s us ws _ h1 h2 => .of_eq (h kV doc pm an cdv ct us ws h1 h2), gI_rel⟩
end M
namespace M
open PySem PySem.Spec PyProof.Rows L2
/-! ### texts: times, backward, truth; isinstance -/
noncomputable def xRep (w : Tx) (n : Int) : Res Tx := clo (if -(2 ^ 63) ≤ n ∧ n < 2 ^ 63 ∧ w.length * n.toNat ≤ line then .ok (List.replicate n.toNat w).flatten else .bad)
def rRepS : R2 := fun x y H Q => ∃ z i, x = .str z ∧ y = .int i ∧ -(2 ^ 63) ≤ i ∧ i < 2 ^ 63 ∧ z.length * i.toNat ≤ sizeLine ∧ Q (.str ⟨((List.replicate i.toNat z.cps.toList).flatten).toArray⟩) H
theorem fold_rep (c : Array Nat) : ∀ (n : Nat) (a : Array Nat), ((List.replicate n c).foldl (· ++ ·) a).toList = a.toList ++ (List.replicate n c.toList).flatten
  | 0, a => by simp
  | n + 1, a => by
    rw [List.replicate_succ, List.foldl_cons, fold_rep c n, List.replicate_succ, List.flatten_cons]
    simp
theorem op_rep_str {X : Cx} : OpR X (binaryOp .Mult) rRepS := by
  intro pins s σ H x y v u Q I rx ry h
  obtain ⟨z, i, rfl, rfl, h1, h2, hz, q⟩ := h
  obtain ⟨t, rfl⟩ := rx
  obtain ⟨t', rfl⟩ := ry
  have sl : (sizeLine : Nat) = 16777216 := sizeLine_eq
  refine P.mul_str ?_ ?_ ?_ ?_
  · have e1 : ¬ i < -(2 ^ 63 : Int) := by omega
    have e2 : ¬ i ≥ 2 ^ 63 := by omega
    rw [decide_eq_false e1, decide_eq_false e2]; rfl
  · intro hi _ hb
    have hp : (0 : Int) < i := by omega
    have h3 : (z.length : Int) * i ≤ 16777216 := by
      have e : i = ((i.toNat : Nat) : Int) := by omega
      rw [e]
      have : ((z.length * i.toNat : Nat) : Int) ≤ 16777216 := by omega
      simpa using this
    have h4 : (2 ^ 63 - 1) / i < (z.length : Int) := hb
    have h5 : (2 ^ 63 - 1 : Int) < (z.length : Int) * i := Int.lt_mul_of_ediv_lt hp h4
    omega
  · intro _ _
    exact decide_eq_false (Nat.not_lt.mpr hz)
  · by_cases hi : i < 1
    · rw [if_pos hi]
      have e : i.toNat = 0 := by omega
      rw [e] at q
      exact ⟨by decide, .str _, H, I.tok _, ⟨_, rfl⟩, q⟩
    · rw [if_neg hi]
      by_cases hb : (i == 1 || z.length == 0) = true
      · rw [if_pos hb]
        have e : (⟨((List.replicate i.toNat z.cps.toList).flatten).toArray⟩ : Str) = z := by
          apply ext_toList
          show (List.replicate i.toNat z.cps.toList).flatten = z.cps.toList
          rcases (Bool.or_eq_true _ _).mp hb with e | e
          · have : i = 1 := by simpa using e
            rw [this]
            simp
          · have : z.cps.size = 0 := by simpa [Str.length] using e
            have e2 : z.cps.toList = [] := by simpa using this
            rw [e2]
            simp
        rw [e] at q
        exact ⟨.str z, H, I, ⟨_, rfl⟩, q⟩
      · rw [if_neg hb]
        have e : (⟨((List.replicate i.toNat z.cps.toList).flatten).toArray⟩ : Str) = ⟨(List.replicate i.toNat z.cps).foldl (· ++ ·) #[]⟩ := by
          apply ext_toList
          rw [fold_rep]
          simp
        rw [e] at q
        refine ⟨?_, .str _, H, I.tok _, ⟨_, rfl⟩, q⟩
        show ((List.replicate i.toNat z.cps).foldl (· ++ ·) #[]).size ≤ sizeLine
        have e2 : ((List.replicate i.toNat z.cps).foldl (· ++ ·) #[]).size = z.length * i.toNat := by
          rw [← Array.length_toList, fold_rep]
          simp [Str.length, Nat.mul_comm]
        rw [e2]
        exact hz
theorem hr_repT {x : Tx} {y : Int} : HR rRepS x y (xRep x y) := .mk fun X Q _ _ q => by
  unfold xRep at q
  rw [clo_eq] at q
  split at q
  · rename_i h
    refine ⟨mkS x, y, rfl, rfl, h.1, h.2.1, by rw [mkS_len, ← line_eq]; exact h.2.2, ?_⟩
    rw [mkS_list]
    refine q ?_
    show ((List.replicate y.toNat x).flatten).length ≤ line
    rw [List.length_flatten, List.map_replicate, List.sum_replicate_nat, Nat.mul_comm]
    exact h.2.2
  · exact q.elim
/-- s[::-1] -/
def tRevS (te : TE) : TE := fun σ H Q => te σ H fun x H1 => ∃ z, x = .str z ∧ z.length ≤ sizeLine ∧ Q (.str ⟨z.cps.toList.reverse.toArray⟩) H1
theorem pe_revS {X : Cx} {e : Expr} {te : TE} {k : Nat} {p1 p2 p3 pos : Pos} (he : PE X e te) : PE X (.Subscript e (.Slice none none (some (.UnaryOp .USub (.Constant (.int 1) k p1) p2)) p3) pos) (tRevS te) := by
  refine ⟨fun pins s σ H Q I h => ?_⟩
  refine Subscript_ (thn (he.run pins s σ H _ I h) fun v s1 ⟨x, H1, I1, r1, q1⟩ => ?_)
  obtain ⟨z, ex, hz, q⟩ := q1
  subst ex
  obtain ⟨t, rfl⟩ := r1
  have hst : PO X (some (.UnaryOp .USub (.Constant (.int 1) k p1) p2)) (tPart (tUn (rU fun i => .int (-i)) (tC (.int 1)))) := po_some (pe_un un_neg pe_int)
  refine wpAny_Slice (thn (po_none.run pins s1 σ H1 (fun o H2 => o = none ∧ H2 = H1) I1 ⟨rfl, rfl⟩) fun vl s2 ⟨l, H2, I2, pl, el, e2⟩ => ?_)
  subst el e2
  refine thn (po_none.run pins s2 σ H2 (fun o H3 => o = none ∧ H3 = H2) I2 ⟨rfl, rfl⟩) fun vu s3 ⟨u, H3, I3, pu, eu, e3⟩ => ?_
  subst eu e3
  refine thn (hst.run pins s3 σ H3 (fun o H4 => o = some (-1) ∧ H4 = H3) I3 ⟨1, rfl, -1, rfl, rfl, rfl⟩) fun vs s4 ⟨o, H4, I4, ps, eo, e4⟩ => ?_
  subst eo e4
  have I5 : Inv X pins σ H4 { s4 with heap := s4.heap.push { cls := .type "slice", data := .fields #[vl, vu, vs] } } := I4.kept (t' := s4.toks) fun b ob q => Heap.get?_push_of_some _ q
  obtain ⟨l, rfl, el⟩ := IsPart.raw pl
  obtain ⟨u, rfl, eu⟩ := IsPart.raw pu
  obtain ⟨st, rfl, es⟩ := IsPart.raw ps
  have hl : l = none := by cases l <;> simp at el ⊢
  have hu : u = none := by cases u <;> simp at eu ⊢
  subst hl hu
  obtain ⟨d, tk, rfl⟩ : ∃ d tk, st = some (d, tk) := by
    cases st with
    | none => simp at es
    | some p => exact ⟨p.1, p.2, rfl⟩
  have hd : d = -1 := by
    have z : (-1 : Int) = d := by simpa using es.symm
    exact z.symm
  subst hd
  refine tail_any (T := "str") (ops := [.str z t, .ref s4.heap.objs.size]) (typeIs_str _ _ _) (F.slot_str_getitem.lookup) ?_ (by with_unfolding_all rfl)
  refine wpAny_getItem_str_slice (l := none) (u := none) (st := some (-1, tk)) ⟨_, Heap.get?_push_size _ rfl, rfl, rfl⟩ (by rfl) ?_
  have e : (⟨((slicePicked z none none (some (-1, tk))).filterMap (z.cps[·]?)).toArray⟩ : Str) = ⟨z.cps.toList.reverse.toArray⟩ := by
    have hr := step_rev_list z tk
    have e0 : (Txt.sliceBy z none none (-1, tk)) = ⟨((slicePicked z none none (some (-1, tk))).filterMap (z.cps[·]?)).toArray⟩ := by
      unfold Txt.sliceBy
      exact if_neg (by simp)
    rw [e0] at hr
    apply ext_toList
    refine hr.trans ?_
    show _ = z.cps.toList.reverse
    apply List.ext_getElem
    · simp [Str.length]
    · intro i h1 h2
      have hi : i < z.length := by simpa using h1
      have hi2 : i < z.cps.size := hi
      rw [List.getElem_map, List.getElem_range, List.getElem_reverse]
      have h3 : z.length - 1 - i < z.cps.size := by
        have : z.length = z.cps.size := rfl
        omega
      simp only [Array.getD, h3, dif_pos, Array.getElem_toList]
      first | rfl | simp [Str.length]
  show (sliceMade z t none none (some (-1, tk))).post _ _
  unfold sliceMade
  rw [if_neg (by simp), e]
  refine ⟨?_, .str _, H4, I5.tok _, ⟨_, rfl⟩, q⟩
  show (z.cps.toList.reverse.toArray).size ≤ sizeLine
  simpa [Str.length] using hz
section
variable {K : PySem.W.Frag} {Γ : List Cell} {te : TE} {i : Nat} {P : Prop}
theorem hf_revp {w : Tx} (u : Unit) (h : HF K te Γ (.ok w)) : HF K (tRevS te) Γ (.ok w.reverse) := .mk fun X Q E q => h.run X _ E fun ok => ⟨mkS w, rfl, by rw [mkS_len, ← line_eq]; exact ok, by
  rw [mkS_list]
  exact q (by show w.reverse.length ≤ line; rw [List.length_reverse]; exact ok)⟩
theorem hf_revm {m : Res Tx} (u : Tx → Unit) (h : HF K te Γ m) : HF K (tRevS te) Γ (m.bind fun w => .ok w.reverse) := .mk fun X Q E q => h.run X _ E (wpb q fun w q ok => ⟨mkS w, rfl, by rw [mkS_len, ← line_eq]; exact ok, by
  rw [mkS_list]
  exact q (by show w.reverse.length ≤ line; rw [List.length_reverse]; exact ok)⟩)
def tTrq (K : PySem.W.Frag) (te : TE) : TT := fun σ H Q => te σ H fun x H' => ∃ k, TruV K x H' k ∧ Q k H'
theorem ht_truT_p {w : Tx} (h : HF K te Γ (.ok w)) : HT K (tTrq K te) Γ (.ok (!w.isEmpty)) := .mk fun X Q E q => h.run X _ E fun ok => ⟨!w.isEmpty, ⟨by rw [mkS_len, ← line_eq]; exact ok, by rw [mkS_len]; cases w <;> simp <;> omega⟩, q⟩
theorem ht_truT_m {m : Res Tx} (h : HF K te Γ m) : HT K (tTrq K te) Γ (m.bind fun w => .ok (!w.isEmpty)) := .mk fun X Q E q => h.run X _ E (wpb q fun w q ok => ⟨!w.isEmpty, ⟨by rw [mkS_len, ← line_eq]; exact ok, by rw [mkS_len]; cases w <;> simp <;> omega⟩, q⟩)
/-! isinstance of what is known, a built-in class -/
def tIsi (K : PySem.W.Frag) (i : Nat) (T : String) : TE := tCB (rIsi K) (tCons (tVar i) (tCons (tC (.ty T)) tNil))
section
variable {T : String} {b : Bool}
theorem hf_isI {n : Int} (hΓ : Γ[i]? = some (.im n)) (e : ∀ K, PySem.W.kitOne K (.type "int") (.type T) = some b) : HF K (tIsi K i T) Γ (.ok b) := .mk fun X Q E q => ⟨_, (E.sca hΓ).1, _, _, _, _, b, rfl, .ty T, .base (.int n), e K, q trivial⟩
theorem hf_isB {n : Bool} (hΓ : Γ[i]? = some (.im n)) (e : ∀ K, PySem.W.kitOne K (.type "bool") (.type T) = some b) : HF K (tIsi K i T) Γ (.ok b) := .mk fun X Q E q => ⟨_, (E.sca hΓ).1, _, _, _, _, b, rfl, .ty T, .base (.bl n), e K, q trivial⟩
theorem hf_isT {n : Tx} (hΓ : Γ[i]? = some (.im n)) (e : ∀ K, PySem.W.kitOne K (.type "str") (.type T) = some b) : HF K (tIsi K i T) Γ (.ok b) := .mk fun X Q E q => ⟨_, (E.sca hΓ).1, _, _, _, _, b, rfl, .ty T, .base (.str _), e K, q trivial⟩
theorem hf_isL {α : Type} [Rep α] {xs : List α} (hΓ : Γ[i]? = some (.im xs)) (e : ∀ K, PySem.W.kitOne K (.type "list") (.type T) = some b) : HF K (tIsi K i T) Γ (.ok b) := .mk fun X Q E q => by
  obtain ⟨a, vs, hs, ha, _⟩ := E.listAt hΓ
  exact ⟨_, hs, _, _, _, _, b, rfl, .ty T, .base (.lst ha), e K, q trivial⟩
theorem hf_isLO {α : Type} [Rep α] {xs : List α} {pn : Option V} (hΓ : Γ[i]? = some (.own xs pn)) (e : ∀ K, PySem.W.kitOne K (.type "list") (.type T) = some b) : HF K (tIsi K i T) Γ (.ok b) := .mk fun X Q E q => by
  obtain ⟨a, vs, hs, ha, _⟩ := E.ownAt' hΓ
  exact ⟨_, hs, _, _, _, _, b, rfl, .ty T, .base (.lst ha), e K, q trivial⟩
end
end
end M
namespace M
open PySem PySem.Spec PyProof.Rows L2
/-! ### == of data -/
class Dat (α : Type) [Rep α] [DecidableEq α] where
  toD : α → PyData
  dp : ∀ {K : PySem.W.Frag} {I : Hp} {v : V} {x : α}, Rep.rp K I v x → Dp K I v (toD x)
  eq : ∀ x y : α, PyData.eqv (toD x) (toD y) = decide (x = y)
  dep : Nat
  depth : ∀ x : α, (toD x).depth ≤ dep
instance datInt : Dat Int := ⟨.int, fun {_ _ v x} h => by
  have h : v = V.int x ∧ True := h
  rw [h.1]; exact .int x, fun x y => by
  show (x == y) = _
  by_cases e : x = y <;> simp [e], 0, fun _ => Nat.le_refl _⟩
instance datBool : Dat Bool := ⟨.bool, fun {_ _ v x} h => by
  have h : v = V.bl x ∧ True := h
  rw [h.1]; exact .bl x, fun x y => by
  show (x == y) = _
  by_cases e : x = y <;> simp [e], 0, fun _ => Nat.le_refl _⟩
theorem mkS_beq (x y : Tx) : (mkS x == mkS y) = decide (x = y) := by
  by_cases e : x = y
  · subst e; simp
  · rw [decide_eq_false e]
    exact beq_eq_false_iff_ne.mpr fun q => e (mkS_inj q)
instance datTx : Dat Tx := ⟨fun w => .str (mkS w), fun {_ _ v x} h => by
  have h : v = V.str (mkS x) ∧ _ := h
  rw [h.1]; exact .str _, fun x y => mkS_beq x y, 0, fun _ => Nat.le_refl _⟩
section
variable {α β : Type} [Rep α] [DecidableEq α] [Dat α] [Rep β] [DecidableEq β] [Dat β]
theorem dpAll {K : PySem.W.Frag} {I : Hp} : ∀ {vs : List V} {xs : List α}, Paired (fun v x => Rep.rp K I v x) vs xs → DpAll K I vs (xs.map Dat.toD)
  | _, _, .nil => .nil
  | _, _, .cons r t => .cons (Dat.dp r) (dpAll t)
theorem eqvAll : ∀ xs ys : List α, PyData.eqvAll (xs.map Dat.toD) (ys.map Dat.toD) = decide (xs = ys)
  | [], [] => rfl
  | [], y :: ys => rfl
  | x :: xs, [] => rfl
  | x :: xs, y :: ys => by
    show (PyData.eqv (Dat.toD x) (Dat.toD y) && PyData.eqvAll (xs.map Dat.toD) (ys.map Dat.toD)) = _
    rw [Dat.eq, eqvAll xs ys]
    by_cases e : x = y <;> by_cases e2 : xs = ys <;> simp [e, e2]
theorem depthAll (xs : List α) : PyData.depthAll (xs.map Dat.toD) ≤ Dat.dep α := by
  induction xs with
  | nil => exact Nat.zero_le _
  | cons x xs ih =>
    show max (PyData.depth (Dat.toD x)) (PyData.depthAll (xs.map Dat.toD)) ≤ _
    exact Nat.max_le.mpr ⟨Dat.depth x, ih⟩
instance datList : Dat (List α) := ⟨fun xs => .list (xs.map Dat.toD), fun {K I v x} h => by
  obtain ⟨a, vs, rfl, hq, p⟩ := h
  exact .lst (SqL.of hq) (dpAll p), fun x y => eqvAll x y, Dat.dep α + 1, fun x => Nat.succ_le_succ (depthAll x)⟩
instance : DecidableEq (TupL α) := fun x y => decidable_of_iff (x.l = y.l) ⟨fun h => by cases x; cases y; simpa using h, fun h => by rw [h]⟩
instance datTupL : Dat (TupL α) := ⟨fun xs => .tuple (xs.l.map Dat.toD), fun {K I v x} h => by
  obtain ⟨a, vs, rfl, hq, p⟩ := h
  exact .tup hq (dpAll p), fun x y => by
  refine (eqvAll x.l y.l).trans ?_
  by_cases e : x.l = y.l
  · have : x = y := by cases x; cases y; simpa using e
    simp [this]
  · have : x ≠ y := fun z => e (by rw [z])
    simp [e, this], Dat.dep α + 1, fun x => Nat.succ_le_succ (depthAll x.l)⟩
instance datPair : Dat (α × β) := ⟨fun x => .tuple [Dat.toD x.1, Dat.toD x.2], fun {K I v x} h => by
  obtain ⟨a, v1, v2, rfl, hq, p1, p2⟩ := h
  exact .tup hq (.cons (Dat.dp p1) (.cons (Dat.dp p2) .nil)), fun x y => by
  show (PyData.eqv (Dat.toD x.1) (Dat.toD y.1) && (PyData.eqv (Dat.toD x.2) (Dat.toD y.2) && true)) = _
  rw [Dat.eq, Dat.eq]
  obtain ⟨x1, x2⟩ := x
  obtain ⟨y1, y2⟩ := y
  by_cases e : x1 = y1 <;> by_cases e2 : x2 = y2 <;> simp [e, e2], max (Dat.dep α) (Dat.dep β) + 1, fun x => by
  show max (PyData.depth (Dat.toD x.1)) (max (PyData.depth (Dat.toD x.2)) 0) + 1 ≤ _
  have h1 := Dat.depth x.1
  have h2 := Dat.depth x.2
  omega⟩
end
/-- == of data; texts with codes that no sign has are none -/
def eqD {α : Type} [Rep α] [DecidableEq α] [Dat α] (x y : α) : Res Bool := if (PyData.canLay0 (Dat.toD x) && PyData.canLay0 (Dat.toD y)) = true then .ok (decide (x = y)) else .bad
def neD {α : Type} [Rep α] [DecidableEq α] [Dat α] (x y : α) : Res Bool := if (PyData.canLay0 (Dat.toD x) && PyData.canLay0 (Dat.toD y)) = true then .ok (!decide (x = y)) else .bad
theorem lay_ints (xs : List Int) : PyData.canLay0 (Dat.toD xs) = true := by
  show PyData.canLayAll0 (xs.map Dat.toD) = true
  induction xs with
  | nil => rfl
  | cons x xs ih =>
    show (PyData.canLay0 (.int x) && PyData.canLayAll0 (xs.map Dat.toD)) = true
    rw [ih]; rfl
@[simp] theorem eqD_ints (x y : List Int) : eqD x y = .ok (decide (x = y)) := by
  unfold eqD
  rw [lay_ints, lay_ints]
  rfl
@[simp] theorem neD_ints (x y : List Int) : neD x y = .ok (!decide (x = y)) := by
  unfold neD
  rw [lay_ints, lay_ints]
  rfl
section
variable {K : PySem.W.Frag} {mg : Str → Option Value} {I H I' H' : Hp} {σ σ' ρ : List (Option V)} {Γ Γ' Θ : List Cell} {i j n : Nat} {v v0 v1 v2 v3 : V} {c c1 c2 c3 c4 : Cell} {o1 o2 o3 o4 : Option V} {te tl ti : TE} {ta : TA} {tt : TT} {t u : TS} {dn db dc : L2.St → Hp → Prop} {dr : VK} {Q : VK} {W : WX}
variable {pn : Option V} {ω : Type} {P : ω → Prop} {X : Exn → Prop} {α β γ δ : Type}
theorem shp [Rep α] [DecidableEq α] [Dat α] {x : α} (h : PyData.canLay0 (Dat.toD x) = true) (hd : Dat.dep α ≤ 64) : SeqAt.shaped (Dat.toD x) = true := by
  unfold SeqAt.shaped
  rw [h, Bool.true_and]
  exact decide_eq_true (Nat.le_trans (Dat.depth x) hd)
theorem st_eqD [Rep α] [DecidableEq α] [Dat α] {x y : α} {k : Bool → Res ω} (E : Env K I H σ Γ (some v2 :: some v1 :: ρ) (.im y :: .im x :: Θ)) (hd : Dat.dep α ≤ 64) (h : wp ((eqD x y).bind k) P X)
    (next : ∀ b v, Env K I H σ Γ (some v :: ρ) (.im b :: Θ) → wp (k b) P X → Q v H) : OpG (rEqD K) v1 v2 H Q := by
  unfold eqD at h
  split at h
  · rename_i hb
    have hb := (Bool.and_eq_true _ _).mp hb
    refine ⟨_, _, Dat.dp (Rep.mono E.same E.pop.topR), Dat.dp (Rep.mono E.same E.topR), shp hb.1 hd, shp hb.2 hd, ?_⟩
    rw [Dat.eq]
    exact next _ _ (E.pop.pop.pushS (a := decide (x = y)) trivial) h
  · exact h.elim
theorem st_neD [Rep α] [DecidableEq α] [Dat α] {x y : α} {k : Bool → Res ω} (E : Env K I H σ Γ (some v2 :: some v1 :: ρ) (.im y :: .im x :: Θ)) (hd : Dat.dep α ≤ 64) (h : wp ((neD x y).bind k) P X)
    (next : ∀ b v, Env K I H σ Γ (some v :: ρ) (.im b :: Θ) → wp (k b) P X → Q v H) : OpG (rNeD K) v1 v2 H Q := by
  unfold neD at h
  split at h
  · rename_i hb
    have hb := (Bool.and_eq_true _ _).mp hb
    refine ⟨_, _, Dat.dp (Rep.mono E.same E.pop.topR), Dat.dp (Rep.mono E.same E.topR), shp hb.1 hd, shp hb.2 hd, ?_⟩
    rw [Dat.eq]
    exact next _ _ (E.pop.pop.pushS (a := !decide (x = y)) trivial) h
  · exact h.elim
/-- an owned list against [] -/
theorem paired_dp0 {K : PySem.W.Frag} {H : Hp} {p : Addr} (hp : H p = some (.lst [])) : Dp K H (.ref p) (.list []) := .lst (SqL.of hp) .nil
theorem st_eqOnil [Sca α] [DecidableEq α] [Dat α] {xs : List α} (E : Env K I H σ Γ ρ Θ) (hΓ : Γ[i]? = some (.own xs pn)) (hl : PyData.canLay0 (Dat.toD xs) = true) (hd : Dat.dep (List α) ≤ 64)
    (next : ∀ H' v, Env K I H' σ Γ (some v :: ρ) (.im (List.isEmpty xs) :: Θ) → Q v H') : tOp (rEqD K) (tVar i) (tLst tNil) σ H Q := by
  obtain ⟨p, vs, hs, hp, _, r, _⟩ := E.ownAt hΓ
  refine ⟨_, hs, Nat.zero_le _, fun q hq => ?_⟩
  have hpq : p ≠ q := fun e => by rw [e, hq] at hp; cases hp
  have E' : Env K I (upd H q (.lst [])) σ Γ ρ Θ := E.grow (Grow.newH E.same hq)
  have rp : Rep.rp K (upd I p (.lst vs)) (.ref p) xs := ⟨p, vs, rfl, upd_same, Paired.monoR (fun _ _ z => z) r⟩
  have d1 : Dp K (upd H q (.lst [])) (.ref p) (Dat.toD xs) := Dat.dp (α := List α) ⟨p, vs, rfl, by rw [upd_ne hpq]; exact hp, Paired.monoR (fun _ _ z => z) r⟩
  refine ⟨_, _, d1, paired_dp0 upd_same, shp hl hd, by decide, ?_⟩
  have e : PyData.eqv (Dat.toD xs) (.list []) = List.isEmpty xs := by
    cases xs with
    | nil => rfl
    | cons x xs => rfl
  rw [e]
  exact next _ _ (E'.pushS trivial)
theorem st_neOnil [Sca α] [DecidableEq α] [Dat α] {xs : List α} (E : Env K I H σ Γ ρ Θ) (hΓ : Γ[i]? = some (.own xs pn)) (hl : PyData.canLay0 (Dat.toD xs) = true) (hd : Dat.dep (List α) ≤ 64)
    (next : ∀ H' v, Env K I H' σ Γ (some v :: ρ) (.im (!List.isEmpty xs) :: Θ) → Q v H') : tOp (rNeD K) (tVar i) (tLst tNil) σ H Q := by
  obtain ⟨p, vs, hs, hp, _, r, _⟩ := E.ownAt hΓ
  refine ⟨_, hs, Nat.zero_le _, fun q hq => ?_⟩
  have hpq : p ≠ q := fun e => by rw [e, hq] at hp; cases hp
  have E' : Env K I (upd H q (.lst [])) σ Γ ρ Θ := E.grow (Grow.newH E.same hq)
  have d1 : Dp K (upd H q (.lst [])) (.ref p) (Dat.toD xs) := Dat.dp (α := List α) ⟨p, vs, rfl, by rw [upd_ne hpq]; exact hp, Paired.monoR (fun _ _ z => z) r⟩
  refine ⟨_, _, d1, paired_dp0 upd_same, shp hl hd, by decide, ?_⟩
  have e : PyData.eqv (Dat.toD xs) (.list []) = List.isEmpty xs := by
    cases xs with
    | nil => rfl
    | cons x xs => rfl
  rw [e]
  exact next _ _ (E'.pushS trivial)
/-! ### tests -/
theorem st_htp {b : Bool} {Q : Bool → Hp → Prop} (E : Env K I H σ Γ ρ Θ) (ht : HT K tt Γ (.ok b)) (next : Q b H) : tt σ H Q := ht.run (fun _ => False) Q E next
theorem st_htm {m : Res Bool} {k : Bool → Res ω} {Q : Bool → Hp → Prop} (E : Env K I H σ Γ ρ Θ) (ht : HT K tt Γ m) (h : wp (m.bind k) P X) (next : ∀ b, wp (k b) P X → Q b H) : tt σ H Q := ht.run X Q E (wpb h next)
theorem st_notV {b : Bool} (E : Env K I H σ Γ (some v :: ρ) (.im b :: Θ)) (next : ∀ v, Env K I H σ Γ (some v :: ρ) (.im (!b) :: Θ) → Q v H) : NotG v H Q := by
  obtain ⟨e, _⟩ := E.topS
  exact ⟨b, e, next _ (E.pop.pushS (a := !b) trivial)⟩
theorem st_vb {b : Bool} {Q : Bool → Prop} (E : Env K I H σ Γ (some v :: ρ) (.im b :: Θ)) (next : Env K I H σ Γ ρ Θ → Q b) : ∃ k, v = .bl k ∧ Q k := by
  obtain ⟨e, _⟩ := E.topS
  exact ⟨b, e, next E.pop⟩
/-! ### calls that let nothing out -/
def noX (m : Res α) : Res α := match m with | .ok a => .ok a | .exc _ => .bad | .bad => .bad
theorem wp_noX {m : Res α} {P : α → Prop} {X Y : Exn → Prop} (h : wp (noX m) P X) : wp m P Y := by
  cases m with
  | ok a => exact h
  | exc e => exact h.elim
  | bad => exact h
theorem wp_noX_bind {m : Res α} {k : α → Res ω} {Y : Exn → Prop} (h : wp ((noX m).bind k) P X) : wp m (fun a => wp (k a) P X) Y := wp_noX (wp_bind.mp h)
theorem st_callX {A B : Type} {cells : A → List Cell} {m : A → Res B} {oc : B → Cell} {vs : List V} {EX : XK} (a : A) {k : B → Res ω} (E : Env K I H σ Γ ((vs.map some).reverse ++ ρ) ((cells a).reverse ++ Θ)) (hn : vs.length = n) (hc : (cells a).length = n)
    (h : wp ((noX (m a)).bind k) P X)
    (next : ∀ b I' H' v, Env K I' H' σ Γ (some v :: ρ) (oc b :: Θ) → wp (k b) P X → Q v H') : SpM K mg n cells m oc vs H Q EX := by
  refine ⟨hn, a, I, σ ++ ρ, Γ ++ Θ, E.enter (by rw [List.length_map, hn, hc]), ?_⟩
  have h2 := wp_noX_bind (Y := fun _ => False) h
  exact wp_mono h2 (fun b q I' H' v E' => next b I' H' v (E'.leave E.1) q) fun e x => x.elim
theorem st_callOX {S A B : Type} [Own S] {cells : A → List Cell} {m : S → A → Res (B × S)} {oc : B → Cell} {vs : List V} {s : S} (a : A) {k : B × S → Res ω} (hΓ : Γ[i]? = some (.own s pn)) (h0 : σ[i]? = some (some v0))
    (E : Env K I H σ Γ ((vs.map some).reverse ++ ρ) ((cells a).reverse ++ Θ)) (hn : vs.length = n) (hc : (cells a).length = n)
    (h : wp ((noX (m s a)).bind k) P X)
    (next : ∀ b I' H' v, Env K I' H' σ (Γ.set i (.own b.2 pn)) (some v :: ρ) (oc b.1 :: Θ) → wp (k b) P X → Q v H') : SpO K mg n cells m oc (v0 :: vs) H Q (WE W σ) :=
  st_callO' a hΓ h0 E hn hc (wp_noX_bind (Y := fun _ => False) h) (fun e x => x.elim) next
end
end M
namespace M
open PySem PySem.Spec PyProof.Rows L2
def lSet {α : Type} (xs : List α) (i : Int) (y : α) : Res (List α) := match ixN xs.length i with | some k => .ok (xs.set k y) | none => .bad
def lPop {α : Type} (xs : List α) : Res (α × List α) := match xs[xs.length - 1]? with | some y => .ok (y, xs.dropLast) | none => .bad
noncomputable def lPopAt {α : Type} (xs : List α) (i : Int) : Res (α × List α) := clo (if -(2 ^ 63) ≤ i ∧ i < 2 ^ 63 then match seqIndex? i xs.length with
  | some k => (match xs[k]? with | some y => .ok (y, xs.eraseIdx k) | none => .bad)
  | none => .bad else .bad)
theorem paired_set {α : Type} {f : V → α → Prop} {v : V} {y : α} (r : f v y) : ∀ {vs : List V} {xs : List α} {k : Nat}, Paired f vs xs → Paired f (vs.set k v) (xs.set k y)
  | _, _, _, .nil => .nil
  | _, _, 0, .cons _ t => .cons r t
  | _, _, k + 1, .cons q t => .cons q (paired_set r t)
theorem paired_erase {α : Type} {f : V → α → Prop} : ∀ {vs : List V} {xs : List α} {k : Nat}, Paired f vs xs → Paired f (vs.eraseIdx k) (xs.eraseIdx k)
  | _, _, _, .nil => .nil
  | _, _, 0, .cons _ t => t
  | _, _, k + 1, .cons q t => .cons q (paired_erase t)
theorem paired_dropLast {α : Type} {f : V → α → Prop} : ∀ {vs : List V} {xs : List α}, Paired f vs xs → Paired f vs.dropLast xs.dropLast
  | _, _, .nil => .nil
  | _, _, .cons q .nil => .nil
  | _, _, .cons q (.cons r t) => .cons q (paired_dropLast (.cons r t))
section
variable {K : PySem.W.Frag} {mg : Str → Option Value} {I H I' H' : Hp} {σ σ' ρ : List (Option V)} {Γ Θ : List Cell} {i j n : Nat} {v v0 v1 v2 v3 : V} {c c1 c2 c3 c4 c5 c6 : Cell} {o1 o2 o3 o4 o5 o6 : Option V} {te tl ti : TE} {ta : TA} {tt : TT} {t u : TS} {dn db dc : L2.St → Hp → Prop} {dr : VK} {Q : VK} {W : WX}
variable {pn : Option V} {ω : Type} {P : ω → Prop} {X : Exn → Prop} {α β γ δ : Type}
theorem Env.sw0 (E : Env K I H σ Γ (o1 :: o2 :: ρ) (c1 :: c2 :: Θ)) : Env K I H σ Γ (o2 :: o1 :: ρ) (c2 :: c1 :: Θ) := E.swap
theorem Env.sw1 (E : Env K I H σ Γ (o1 :: o2 :: o3 :: ρ) (c1 :: c2 :: c3 :: Θ)) : Env K I H σ Γ (o1 :: o3 :: o2 :: ρ) (c1 :: c3 :: c2 :: Θ) :=
  E.sperm (by have := E.2.1; simpa using this) ((List.Perm.swap _ _ _).cons _)
theorem Env.sw2 (E : Env K I H σ Γ (o1 :: o2 :: o3 :: o4 :: ρ) (c1 :: c2 :: c3 :: c4 :: Θ)) : Env K I H σ Γ (o1 :: o2 :: o4 :: o3 :: ρ) (c1 :: c2 :: c4 :: c3 :: Θ) :=
  E.sperm (by have := E.2.1; simpa using this) (((List.Perm.swap _ _ _).cons _).cons _)
theorem Env.sw3 (E : Env K I H σ Γ (o1 :: o2 :: o3 :: o4 :: o5 :: ρ) (c1 :: c2 :: c3 :: c4 :: c5 :: Θ)) : Env K I H σ Γ (o1 :: o2 :: o3 :: o5 :: o4 :: ρ) (c1 :: c2 :: c3 :: c5 :: c4 :: Θ) :=
  E.sperm (by have := E.2.1; simpa using this) ((((List.Perm.swap _ _ _).cons _).cons _).cons _)
theorem Env.sw4 (E : Env K I H σ Γ (o1 :: o2 :: o3 :: o4 :: o5 :: o6 :: ρ) (c1 :: c2 :: c3 :: c4 :: c5 :: c6 :: Θ)) : Env K I H σ Γ (o1 :: o2 :: o3 :: o4 :: o6 :: o5 :: ρ) (c1 :: c2 :: c3 :: c4 :: c6 :: c5 :: Θ) :=
  E.sperm (by have := E.2.1; simpa using this) (((((List.Perm.swap _ _ _).cons _).cons _).cons _).cons _)
/-- script[lo:hi] -/
theorem st_cutScr {xs : Scr} {tl th : TO} {lo hi : Option Int} {k : List Int → Res ω} (E : Env K I H σ Γ (some v :: ρ) (.im xs :: Θ)) (hl : HSl K tl Γ (.ok lo)) (hh : HSl K th Γ (.ok hi)) (h : wp ((Res.ok (cutL xs.l lo hi)).bind k) P X)
    (next : ∀ ys I' H' v, Env K I' H' σ Γ (some v :: ρ) (.im ys :: Θ) → wp (k ys) P X → Q v H') : tl σ H fun l H2 => th σ H2 fun u H3 => rSlL K v l u H3 Q :=
  hl.run (fun _ => False) _ E (hh.run (fun _ => False) _ E (by
    obtain ⟨a, e, hq⟩ := E.topR
    subst e
    have pr : ∀ xs : List Int, Paired (fun v x => Rep.rp K I v x) (xs.map V.int) xs := fun xs => by
      induction xs with
      | nil => exact .nil
      | cons x xs ih => exact .cons ⟨rfl, trivial⟩ ih
    exact ⟨a, _, rfl, E.same.seq hq, st_newI (Env.pop E) (cut_paired (pr xs.l) lo hi) fun I' H' v E' => next _ I' H' v E' h⟩))
theorem st_augp {a b : Int} {f : Int → Int → Int} {k : Int → Res ω} (E : Env K I H σ Γ ρ Θ) (hΓ : Γ[i]? = some (.im a)) (ht : HF K te Γ (.ok b)) (h : wp ((Res.ok (f a b)).bind k) P X) (hi : i < Γ.length)
    (next : ∀ x σ', Env K I H σ' (Γ.set i (.im x)) ρ Θ → wp (k x) P X → dn σ' H) : tAug i te (ipI f) ⟨dn, dr, db, dc⟩ σ H :=
  ⟨_, (E.sca hΓ).1, ht.run (fun _ => False) _ E fun _ => ⟨a, b, rfl, rfl, next _ _ (E.setS (a := f a b) trivial hi rfl) h⟩⟩
theorem st_augm {a : Int} {m : Res Int} {f : Int → Int → Int} {k : Int → Res ω} (E : Env K I H σ Γ ρ Θ) (hΓ : Γ[i]? = some (.im a)) (ht : HF K te Γ m) (h : wp ((m.bind fun b => .ok (f a b)).bind k) P X) (hi : i < Γ.length)
    (next : ∀ x σ', Env K I H σ' (Γ.set i (.im x)) ρ Θ → wp (k x) P X → dn σ' H) : tAug i te (ipI f) ⟨dn, dr, db, dc⟩ σ H :=
  ⟨_, (E.sca hΓ).1, ht.run X _ E (by
    rw [Res.bind_assoc] at h
    exact wpb h fun b h _ => ⟨a, b, rfl, rfl, next _ _ (E.setS (a := f a b) trivial hi rfl) h⟩)⟩
/-- xs[i] = y, y on the stack -/
theorem st_setLm [Rep α] {xs : List α} {y : α} {m : Res Int} {k : List α → Res ω} {Γ' : List α → List Cell} {dn : L2.St → Hp → Prop} (E : Env K I H σ Γ (some v :: ρ) (.im y :: Θ)) (hΓ : Γ[i]? = some (.own xs pn)) (ht : HF K ti Γ m) (h : wp (m.bind fun j => (lSet xs j y).bind k) P X)
    (hs : ∀ x, Γ.set i (.own x pn) = Γ' x) (next : ∀ ys H', Env K I H' σ (Γ' ys) ρ Θ → wp (k ys) P X → dn σ H') : gSub (tVar i) ti rSetL v σ H dn := by
  obtain ⟨p, vs, hs1, hp, _, q, ch, _⟩ := E.ownAt hΓ
  refine ⟨_, hs1, ht.run X _ E (wpb h fun j h _ => ?_)⟩
  unfold lSet at h
  cases e : ixN xs.length j with
  | none => rw [e] at h; exact h.elim
  | some n =>
    rw [e] at h
    refine ⟨p, vs, j, n, rfl, rfl, hp, by rw [Paired.length q]; exact e, ?_⟩
    have z := (ch (Grow.refl E.same) _ _ (paired_set E.topR (k := n) q)).pop
    rw [hs] at z
    exact next _ _ z h
theorem st_setLp [Rep α] {xs : List α} {y : α} {j : Int} {k : List α → Res ω} {Γ' : List α → List Cell} {dn : L2.St → Hp → Prop} (E : Env K I H σ Γ (some v :: ρ) (.im y :: Θ)) (hΓ : Γ[i]? = some (.own xs pn)) (ht : HF K ti Γ (.ok j)) (h : wp ((lSet xs j y).bind k) P X)
    (hs : ∀ x, Γ.set i (.own x pn) = Γ' x) (next : ∀ ys H', Env K I H' σ (Γ' ys) ρ Θ → wp (k ys) P X → dn σ H') : gSub (tVar i) ti rSetL v σ H dn := st_setLm E hΓ ht h hs next
/-- a name for what is on the stack -/
theorem st_name [Rep α] {a : α} {k : α → Res ω} {A : Prop} (E : Env K I H σ Γ ρ (.im a :: Θ)) (h : wp ((Res.ok a).bind k) P X) (next : ∀ x, Env K I H σ Γ ρ (.im x :: Θ) → wp (k x) P X → A) : A := next a E h
theorem st_nameO [Own α] {a : α} {k : α → Res ω} {A : Prop} (E : Env K I H σ Γ ρ (.own a pn :: Θ)) (h : wp ((Res.ok a).bind k) P X) (next : ∀ x, Env K I H σ Γ ρ (.own x pn :: Θ) → wp (k x) P X → A) : A := next a E h
end
/-! ### heads, opened -/
section
variable {K : PySem.W.Frag} {σ : L2.St} {H : Hp} {Q : VK} {B : Bool → Hp → Prop} {te ta tb ti : TE} {tt tu : TT} {t tk : TA} {tl th : TO} {r : R2} {ru : V → Hp → VK → Prop} {rc : List V → Hp → VK → Prop} {rs : V → Option Int → Option Int → Hp → VK → Prop} {A : List V → Hp → Prop} {dn db dc : L2.St → Hp → Prop} {dr : VK} {s1 s2 : TS} {g : TG} {sp : Sp} {E : L2.St → XK} {R : It → Hp → Prop}
theorem uOp (h : ta σ H fun x H1 => tb σ H1 fun y H2 => OpG r x y H2 Q) : tOp r ta tb σ H Q := h
theorem uUn (h : ta σ H fun x H1 => UnG ru x H1 Q) : tUn ru ta σ H Q := h
theorem uCB (h : t σ H fun vs H1 => CbG rc vs H1 Q) : tCB rc t σ H Q := h
theorem uCons (h : ta σ H fun x H1 => t σ H1 fun xs H2 => A (x :: xs) H2) : tCons ta t σ H A := h
theorem uNil (h : A [] H) : tNil σ H A := h
theorem uLst (h : t σ H fun xs H1 => LsG xs H1 Q) : tLst t σ H Q := h
theorem uSl (h : te σ H fun x H1 => tl σ H1 fun l H2 => th σ H2 fun u H3 => rs x l u H3 Q) : tSl rs te tl th σ H Q := h
theorem uCallS (h : t σ H fun vs H1 => sp vs H1 Q (E σ)) : tCallS sp E t σ H Q := h
theorem uCallKS {n m : Nat} {gV : List V → List V → List V} (h : t σ H fun vs H1 => tk σ H1 fun zs H2 => vs.length = n ∧ zs.length = m ∧ sp (gV vs zs) H2 Q (E σ)) : tCallKS n m sp gV E t tk σ H Q := h
theorem uAndV (h : ta σ H fun x H1 => ∃ c, x = .bl c ∧ if c = true then tb σ H1 Q else Q (.bl false) H1) : tAndV ta tb σ H Q := h
theorem uOrV (h : ta σ H fun x H1 => ∃ c, x = .bl c ∧ if c = true then Q (.bl true) H1 else tb σ H1 Q) : tOrV ta tb σ H Q := h
theorem uNotV (h : ta σ H fun x H1 => NotG x H1 Q) : tNotV ta σ H Q := h
theorem uTest (h : te σ H fun x H' => ∃ k, x = .bl k ∧ B k H') : tTest te σ H B := h
theorem uB (h : te σ H fun x H' => ∃ k, x = .bl k ∧ B k H') : tB te σ H B := h
theorem uNot (h : tt σ H fun c H1 => B (!c) H1) : tNot tt σ H B := h
theorem uAnd (h : tt σ H fun c H1 => if c = true then tu σ H1 B else B false H1) : tAnd tt tu σ H B := h
theorem uOr (h : tt σ H fun c H1 => if c = true then B true H1 else tu σ H1 B) : tOr tt tu σ H B := h
theorem uDrop (h : te σ H fun _ H1 => dn σ H1) : tDrop te ⟨dn, dr, db, dc⟩ σ H := h
theorem uAsg (h : te σ H fun x H1 => g x σ H1 dn) : tAsg te g ⟨dn, dr, db, dc⟩ σ H := h
theorem uRet (h : te σ H dr) : tRet te ⟨dn, dr, db, dc⟩ σ H := h
theorem uIf (h : tt σ H fun b H1 => if b = true then s1 ⟨dn, dr, db, dc⟩ σ H1 else s2 ⟨dn, dr, db, dc⟩ σ H1) : tIfS tt s1 s2 ⟨dn, dr, db, dc⟩ σ H := h
theorem uSeq (h : s1 ⟨s2 ⟨dn, dr, db, dc⟩, dr, db, dc⟩ σ H) : tSeq s1 s2 ⟨dn, dr, db, dc⟩ σ H := h
theorem uNext (h : dn σ H) : tNext ⟨dn, dr, db, dc⟩ σ H := h
theorem uFor {wi : TI} (h : wi σ H fun J H1 => ∃ W : Nat → Nat → L2.St → Hp → Prop, (∃ m, W 0 m σ H1) ∧ ∀ i m σ H, W i m σ H →
      (J.stop i H ∧ dn σ H) ∨ (J.go i H ∧ ∃ N : L2.St → Hp → Prop, (∀ σ' H', N σ' H' → ∃ m', m' < m ∧ W (i + 1) m' σ' H') ∧ ∀ x H', J.yld i H x H' → g x σ H' fun σ2 H2 => s1 ⟨N, dr, dn, N⟩ σ2 H2)) : tFor wi g s1 ⟨dn, dr, db, dc⟩ σ H := h
theorem uLc {wi : TI} {vs : List Nat} (h : wi σ H fun J H1 => LcG J g tt te vs σ H1 Q) : tLc wi g tt te vs σ H Q := h
theorem uList (h : te σ H fun x H1 => ∃ a, x = .ref a ∧ (∃ xs, SqL K H1 a xs) ∧ R (Itl K a) H1) : iList K te σ H R := h
theorem uTup (h : te σ H fun x H1 => ∃ a, x = .ref a ∧ (∃ xs, SqT K H1 a xs) ∧ R (Itt K a) H1) : iTup K te σ H R := h
end
end M
namespace M
open PySem PySem.Spec PyProof.Rows L2
/-! ### slices with bounds on the way -/
section
variable {K : PySem.W.Frag} {mg : Str → Option Value} {I I1 H I' H' : Hp} {σ σ' ρ : List (Option V)} {Γ Γ1 Θ : List Cell} {i j n : Nat} {v v0 v1 v2 v3 : V} {te tl ti : TE} {ta : TA} {tt : TT} {t u : TS} {to : TO} {dn db dc : L2.St → Hp → Prop} {dr : VK} {Q : VK} {W : WX}
variable {pn : Option V} {ω : Type} {P : ω → Prop} {X : Exn → Prop} {α β γ δ : Type}
theorem uPart {Q : Option Int → Hp → Prop} (h : te σ H fun x H1 => ∃ i, x = .int i ∧ Q (some i) H1) : tPart te σ H Q := h
theorem st_bd {i : Int} {Q : Int → Prop} (E : Env K I H σ Γ (some v :: ρ) (.im i :: Θ)) (next : Env K I H σ Γ ρ Θ → Q i) : ∃ i, v = .int i ∧ Q i := by
  obtain ⟨e, _⟩ := E.topS
  exact ⟨i, e, next E.pop⟩
theorem st_bdp {lo : Option Int} {Q : Option Int → Hp → Prop} (E : Env K I H σ Γ ρ Θ) (hl : HSl K to Γ (.ok lo)) (next : Q lo H) : to σ H Q := hl.run (fun _ => False) _ E next
theorem st_bdm {m : Res (Option Int)} {k : Option Int → Res ω} {Q : Option Int → Hp → Prop} (E : Env K I H σ Γ ρ Θ) (hl : HSl K to Γ m) (h : wp (m.bind k) P X) (next : ∀ lo, wp (k lo) P X → Q lo H) : to σ H Q := hl.run X _ E (wpb h next)
theorem st_slT {w : Tx} {lo hi : Option Int} (E : Env K I H σ Γ (some v :: ρ) (.im w :: Θ)) (next : ∀ v, Env K I H σ Γ (some v :: ρ) (.im (cutL w lo hi) :: Θ) → Q v H) : rSlS v lo hi H Q := by
  obtain ⟨e, ok⟩ := E.topS
  subst e
  have hh : HF K (tSl rSlS (tVar 0) (fun _ H Q => Q lo H) (fun _ H Q => Q hi H)) [.im w] (.ok (cutL w lo hi)) :=
    hf_cut_p (hf_var rfl) (.mk fun X Q E q => q) (.mk fun X Q E q => q)
  have q := hh.run (I := I) (H := H) (σ := [some (enc w)]) (ρ := []) (Θ := []) (fun _ => False) Q ⟨rfl, rfl, E.same, [[]], ⟨⟨rfl, _, rfl, rfl, ok⟩, trivial⟩, by simp, by simp⟩ fun ok => next _ (E.pop.pushS ok)
  obtain ⟨v', e1, q⟩ := q
  cases e1
  exact q
theorem st_slL [Rep α] {xs : List α} {lo hi : Option Int} (E : Env K I H σ Γ (some v :: ρ) (.im xs :: Θ)) (next : ∀ I' H' v, Env K I' H' σ Γ (some v :: ρ) (.im (cutL xs lo hi) :: Θ) → Q v H') : rSlL K v lo hi H Q := by
  obtain ⟨a, vs, e, ha, p⟩ := E.topR
  subst e
  exact ⟨a, vs, rfl, SqL.of (E.same _ _ ha), st_newI (Env.pop E) (cut_paired p lo hi) fun I' H' v E' => next I' H' v E'⟩
theorem st_slLO [Rep α] {xs : List α} {lo hi : Option Int} (E : Env K I H σ Γ (some v :: ρ) (.im xs :: Θ)) (next : ∀ H' v, Env K I H' σ Γ (some v :: ρ) (.own (cutL xs lo hi) :: Θ) → Q v H') : rSlL K v lo hi H Q := by
  obtain ⟨a, vs, e, ha, p⟩ := E.topR
  subst e
  exact ⟨a, vs, rfl, SqL.of (E.same _ _ ha), st_newO (Env.pop E) (cut_paired p lo hi) fun H' v E' => next H' v E'⟩
theorem ints_paired {K : PySem.W.Frag} {I : Hp} : ∀ xs : List Int, Paired (fun v x => Rep.rp K I v x) (xs.map V.int) xs
  | [] => .nil
  | _ :: xs => .cons ⟨rfl, trivial⟩ (ints_paired xs)
theorem st_slScr {xs : Scr} {lo hi : Option Int} (E : Env K I H σ Γ (some v :: ρ) (.im xs :: Θ)) (next : ∀ I' H' v, Env K I' H' σ Γ (some v :: ρ) (.im (cutL xs.l lo hi) :: Θ) → Q v H') : rSlL K v lo hi H Q := by
  obtain ⟨a, e, hq⟩ := E.topR
  subst e
  exact ⟨a, _, rfl, E.same.seq hq, st_newI (Env.pop E) (cut_paired (ints_paired xs.l) lo hi) fun I' H' v E' => next I' H' v E'⟩

/-! ### borrowing: owned lists are read by a call and stay owned -/
structure Snap where
  I : Hp
  H : Hp
  fp : List Addr
instance ownSnap : Own Snap where
  ow K fp I H v s := fp = s.fp ∧ Same s.I I ∧ ∀ b ∈ fp, H b = s.H b
  mono := fun e k ⟨e1, e2, e3⟩ => ⟨e1, e2.trans e, fun b hb => (k b hb).trans (e3 b hb)⟩
def noOwn (c : Cell) : Cell := match c with
  | .any => .any
  | @Cell.im α r a => @Cell.im α r a
  | @Cell.own _ _ _ _ => .any
theorem wk_noOwn : ∀ Γ : List Cell, Wk Γ (Γ.map noOwn)
  | [] => trivial
  | c :: Γ => ⟨by cases c <;> first | exact .inr rfl | exact .inl rfl, wk_noOwn Γ⟩
theorem Env.weakT (E : Env K I H σ Γ ρ Θ) {Θ' : List Cell} (w : Wk Θ Θ') : Env K I H σ Γ ρ Θ' := by
  have e0 : EnvL K I H (ρ.zip Θ ++ σ.zip Γ) := E.2.2.perm List.perm_append_comm
  obtain ⟨q, l⟩ := EnvL.weak E.2.1 w e0
  exact ⟨E.1, l, q.perm List.perm_append_comm⟩
theorem Ents.noOwn0 : ∀ {es : List Ent} {fs : List (List Addr)}, (∀ e ∈ es, e.2 = noOwn e.2) → Ents K I H es fs → fs.flatten = []
  | [], [], _, _ => rfl
  | [], _ :: _, _, h => h.elim
  | _ :: _, [], _, h => h.elim
  | (o, c) :: es, f :: fs, k, h => by
    have h1 := Ents.noOwn0 (fun e he => k e (List.mem_cons_of_mem _ he)) h.2
    have h2 := h.1
    have h3 := k (o, c) (by simp)
    rw [List.flatten_cons, h1]
    cases c with
    | any => rw [show f = [] from h2]; rfl
    | im a => rw [h2.1]; rfl
    | own a pn => exact absurd h3 (fun z => nomatch z)
/-- some lists are let be -/
structure LetS (I I1 : Hp) : Prop where
  same : Same I I1
  lst : ∀ a u, I1 a = some u → I a = some u ∨ ∃ vs, u = .lst vs
theorem LetS.trans {I I1 I2 : Hp} (s : LetS I I1) (t : LetS I1 I2) : LetS I I2 := ⟨s.same.trans t.same, fun a u e => by
  rcases t.lst a u e with h | h
  · exact s.lst a u h
  · exact .inr h⟩
theorem EnvL.snap {es es1 : List Ent} (h : EnvL K I H es) (h1 : EnvL K I1 H es1) (s : LetS I I1) (hn : ∀ e ∈ es1, e.2 = noOwn e.2) : ∃ S : Snap, EnvL K I1 H ((some V.non, .own S) :: es1) ∧
    (∀ {I' H' : Hp} {o : Option V} {r : List Ent}, EnvL K I' H' ((o, .own S) :: r) → EnvL K I H' es) ∧
    ∀ {I' H' : Hp} {o : Option V} {r : List Ent} {d : V} {fs : List (Str × V)}, EnvL K I' H' ((some d, .im (XD.mk fs)) :: (o, .own S) :: r) → ∃ I2, EnvL K I2 H' ((some d, .im (XD.mk fs)) :: es) := by
  obtain ⟨sm, fs, e1, e2, e3⟩ := h
  obtain ⟨sm1, fs1, d1, d2, d3⟩ := h1
  have f0 := Ents.noOwn0 hn d1
  classical
  refine ⟨⟨I1, H, fs.flatten.filter fun a => decide (I1 a = none)⟩, ⟨sm1, _ :: fs1, ⟨⟨V.non, rfl, (fun _ z => nomatch z), rfl, Same.refl _, fun _ _ => rfl⟩, d1⟩, ?_, ?_⟩, fun {I' H' o r} z => ?_, fun {I' H' o r d xs} z => ?_⟩
  · rw [List.flatten_cons, f0, List.append_nil]
    exact e2.filter _
  · intro a ha
    rw [List.flatten_cons, f0, List.append_nil] at ha
    have ha := List.mem_filter.mp ha
    exact ⟨by simpa using ha.2, (e3 a ha.1).2⟩
  · obtain ⟨t1, gs, t2, t3, t4⟩ := z
    cases gs with
    | nil => exact t2.elim
    | cons g gs =>
      obtain ⟨⟨w, _, _, q1, q2, q3⟩, _⟩ := t2
      have q1 : g = _ := q1
      have q2 : Same I1 I' := q2
      have hk : ∀ a ∈ fs.flatten, H' a = H a := fun a ha => by
        cases e : I1 a with
        | none => exact q3 a (by rw [q1]; exact List.mem_filter.mpr ⟨ha, by simpa using e⟩)
        | some u => rw [t1 a u (q2 a u e), sm1 a u e]
      refine ⟨fun a u e => t1 a u (q2 a u (s.same a u e)), fs, Ents.mono (Same.refl _) hk e1, e2, fun a ha => ⟨(e3 a ha).1, ?_⟩⟩
      rw [hk a ha]
      exact (e3 a ha).2
  · obtain ⟨t1, gs, t2, t3, t4⟩ := z
    cases gs with
    | nil => exact t2.elim
    | cons g0 gs =>
      cases gs with
      | nil => exact t2.2.elim
      | cons g gs =>
        obtain ⟨⟨hg0, v0, ev0, hx0⟩, ⟨w, _, _, q1, q2, q3⟩, _⟩ := t2
        have q1 : g = _ := q1
        have q2 : Same I1 I' := q2
        have ev0 : some d = some v0 := ev0
        cases ev0
        have hk : ∀ a ∈ fs.flatten, H' a = H a := fun a ha => by
          cases e : I1 a with
          | none => exact q3 a (by rw [q1]; exact List.mem_filter.mpr ⟨ha, by simpa using e⟩)
          | some u => rw [t1 a u (q2 a u e), sm1 a u e]
        have hx0 : XDr I' d xs := hx0
        rcases hx0 with hx0 | ⟨d', ed', hxd⟩
        · have b : EnvL K I H' es := ⟨fun a u e => t1 a u (q2 a u (s.same a u e)), fs, Ents.mono (Same.refl _) hk e1, e2, fun a ha => ⟨(e3 a ha).1, by rw [hk a ha]; exact (e3 a ha).2⟩⟩
          exact ⟨I, b.im (a := XD.mk xs) (.inl hx0)⟩
        subst ed'
        have hd' : H' d' = some (.xd xs) := t1 _ _ hxd
        have sI : Same I (upd I d' (.xd xs)) := fun a u e => by
          by_cases hd : a = d'
          · subst hd
            have z1 := t1 a u (q2 a u (s.same a u e))
            rw [hd'] at z1
            rw [upd_same, ← z1]
          · rw [upd_ne hd]; exact e
        have nd : ∀ a ∈ fs.flatten, a ≠ d' := fun a ha hd => by
          subst hd
          cases e : I1 a with
          | none =>
            have : I' a = none := (t4 a (by
              rw [List.flatten_cons, List.flatten_cons]
              refine List.mem_append_right _ (List.mem_append_left _ ?_)
              rw [q1]; exact List.mem_filter.mpr ⟨ha, by simpa using e⟩)).1
            rw [hxd] at this
            cases this
          | some u =>
            rcases s.lst a u e with h | ⟨vs, h⟩
            · rw [(e3 a ha).1] at h; cases h
            · have z1 := t1 a u (q2 a u e)
              rw [hd', h] at z1
              cases z1
        refine ⟨upd I d' (.xd xs), fun a u e => ?_, [] :: fs, ⟨⟨rfl, _, rfl, .inr ⟨d', rfl, upd_same⟩⟩, Ents.mono sI hk e1⟩, ?_, fun a ha => ?_⟩
        · by_cases hd : a = d'
          · subst hd
            rw [upd_same] at e
            rw [← e]; exact hd'
          · rw [upd_ne hd] at e
            exact t1 a u (q2 a u (s.same a u e))
        · exact e2
        · have ha : a ∈ fs.flatten := ha
          refine ⟨by rw [upd_ne (nd a ha)]; exact (e3 a ha).1, ?_⟩
          rw [hk a ha]
          exact (e3 a ha).2
theorem noOwn_idem (c : Cell) : noOwn c = noOwn (noOwn c) := by cases c <;> rfl
theorem zip_noOwn : ∀ {o : List (Option V)} {Γ : List Cell}, ∀ e ∈ o.zip (Γ.map noOwn), e.2 = noOwn e.2 := fun {o Γ} e he => by
  obtain ⟨o1, c1⟩ := e
  have := (List.of_mem_zip he).2
  obtain ⟨c, _, e2⟩ := List.mem_map.mp this
  rw [← e2]
  exact noOwn_idem c
/-- before such a call; E1: the same where what the call reads is let be -/
theorem Env.borrow (E : Env K I H σ Γ ρ Θ) (E1 : Env K I1 H σ Γ1 ρ Θ) (s : LetS I I1) : ∃ S : Snap, Env K I1 H σ (Γ1.map noOwn) (some V.non :: ρ) (.own S :: Θ.map noOwn) ∧
    (∀ {β : Type} [Sca β] {b : β} {I' H' : Hp} {v : V} {σ2 : List (Option V)} {Γ2 Θ2 : List Cell} {o : Option V} {ρ2 : List (Option V)}, Env K I' H' σ2 Γ2 (some v :: o :: ρ2) (.im b :: .own S :: Θ2) → Env K I H' σ Γ (some v :: ρ) (.im b :: Θ)) ∧
    (∀ {I' H' : Hp} {σ2 : List (Option V)} {Γ2 Θ2 : List Cell} {o : Option V} {ρ2 : List (Option V)} {d : V} {fs : List (Str × V)}, Env K I' H' σ2 Γ2 (some d :: o :: ρ2) (.im (XD.mk fs) :: .own S :: Θ2) → ∃ I2, Env K I2 H' σ Γ (some d :: ρ) (.im (XD.mk fs) :: Θ)) := by
  have E2 := (E1.weak (wk_noOwn Γ1)).weakT (wk_noOwn Θ)
  obtain ⟨S, a, b, b2⟩ := E.2.2.snap E2.2.2 s fun e he => by
    rcases List.mem_append.mp he with he | he
    · exact zip_noOwn e he
    · exact zip_noOwn e he
  refine ⟨S, E2.toStack a, fun {β _ b' I' H' v σ2 Γ2 Θ2 o ρ2} Z => ?_, fun {I' H' σ2 Γ2 Θ2 o ρ2 d fs} Z => ?_⟩
  · have z := b Z.pop.unstack
    have r := Z.topS
    have E3 : Env K I H' σ Γ ρ Θ := ⟨E.1, E.2.1, z⟩
    rw [r.1]
    exact E3.pushS r.2
  · have z0 : EnvL K I' H' ((some d, .im (XD.mk fs)) :: (o, .own S) :: (σ2.zip Γ2 ++ ρ2.zip Θ2)) := by
      refine Z.2.2.perm ?_
      show (σ2.zip Γ2 ++ ((some d, Cell.im (XD.mk fs)) :: (o, Cell.own S) :: ρ2.zip Θ2)).Perm _
      exact List.perm_middle.trans (List.Perm.cons _ List.perm_middle)
    obtain ⟨I2, z⟩ := b2 z0
    exact ⟨I2, E.1, by simp [E.2.1], z.perm List.perm_middle.symm⟩
/-- a slot is let be, what was is kept in mind -/
theorem Env.let [Rep α] {xs : List α} (E : Env K I H σ Γ ρ Θ) (hΓ : Γ[i]? = some (.own xs pn)) : ∃ I1, LetS I I1 ∧ Env K I1 H σ (Γ.set i (.im xs)) ρ Θ := by
  obtain ⟨p, vs, _, hp, pI, _, _, fz⟩ := E.ownAt hΓ
  refine ⟨_, ⟨fun a u e => ?_, fun a u e => ?_⟩, fz⟩
  · rw [upd_ne (ne_of_none e pI)]
    exact e
  · by_cases h : a = p
    · subst h
      rw [upd_same] at e
      exact .inr ⟨vs, (Option.some.inj e).symm⟩
    · rw [upd_ne h] at e
      exact .inl e
end
end M
namespace M
open PySem PySem.Spec PyProof.Rows L2
/-! ### a law's source of draws: [cells, seed, n] -/
structure Src where
  cells : List Int
  seed : Int
  n : Int
/-- its root alone -/
structure SrcH where
  q : Addr
  seed : Int
  n : Int
instance ownSrcH : Own SrcH where
  ow K fp I H v s := ∃ p, v = .ref p ∧ fp = [p] ∧ H p = some (.lst [.ref s.q, .int s.seed, .int s.n])
  mono := fun e k ⟨p, e1, e2, h⟩ => ⟨p, e1, e2, by subst e2; rw [k p (by simp)]; exact h⟩
instance ownSrc : Own Src where
  ow K fp I H v s := ∃ p q, v = .ref p ∧ fp = [p, q] ∧ H p = some (.lst [.ref q, .int s.seed, .int s.n]) ∧ H q = some (.lst (s.cells.map V.int))
  mono := fun e k ⟨p, q, e1, e2, h1, h2⟩ => ⟨p, q, e1, e2, by subst e2; rw [k p (by simp)]; exact h1, by subst e2; rw [k q (by simp)]; exact h2⟩
theorem ints_of {K : PySem.W.Frag} {I : Hp} : ∀ {vs : List V} {xs : List Int}, Paired (fun v x => Rep.rp K I v x) vs xs → vs = xs.map V.int
  | _, _, .nil => rfl
  | _, _, .cons r t => by
    have r' : _ = V.int _ ∧ True := r
    rw [r'.1, ints_of t]
    rfl
section
variable {K : PySem.W.Frag} {mg : Str → Option Value} {I I1 H I' H' : Hp} {σ σ' ρ : List (Option V)} {Γ Γ' Γ1 Θ : List Cell} {es : List Ent} {i j n : Nat} {v v0 v1 v2 v3 : V} {te tl ti : TE} {ta : TA} {tt : TT} {t u : TS} {to : TO} {dn db dc : L2.St → Hp → Prop} {dr : VK} {Q : VK} {W : WX}
variable {pn : Option V} {o : Option V} {ω : Type} {P : ω → Prop} {X : Exn → Prop} {α β γ δ : Type}
/-- taken apart -/
theorem EnvL.srcOpen {s : Src} (h : EnvL K I H ((o, .own s pn) :: es)) : ∃ q, EnvL K I H ((o, .own (⟨q, s.seed, s.n⟩ : SrcH) pn) :: (some (.ref q), .own s.cells (some (.ref q))) :: es) ∧ ∃ p, o = some (.ref p) ∧ H p = some (.lst [.ref q, .int s.seed, .int s.n]) := by
  obtain ⟨sm, fs, h1, h2, h3⟩ := h
  cases fs with
  | nil => exact h1.elim
  | cons f fs =>
    obtain ⟨⟨v, e1, e0, p, q, e2, e3, hp, hq⟩, h1⟩ := h1
    subst e3
    refine ⟨q, ⟨sm, [p] :: [q] :: fs, ⟨⟨v, e1, e0, p, e2, rfl, hp⟩, ⟨_, rfl, (fun w e => Option.some.inj e), q, _, rfl, rfl, hq, ints_paired _⟩, h1⟩, ?_, ?_⟩, p, ?_, hp⟩
    · exact h2
    · exact h3
    · have e1 : o = some v := e1
      rw [e1, e2]
/-- put together -/
theorem EnvL.srcClose {s : SrcH} {xs : List Int} {o2 : Option V} (h : EnvL K I H ((o, .own s pn) :: (o2, .own xs (some (.ref s.q))) :: es)) : EnvL K I H ((o, .own (⟨xs, s.seed, s.n⟩ : Src) pn) :: (o2, .any) :: es) := by
  obtain ⟨sm, fs, h1, h2, h3⟩ := h
  cases fs with
  | nil => exact h1.elim
  | cons f fs =>
    cases fs with
    | nil => exact h1.2.elim
    | cons g fs =>
      obtain ⟨⟨v, e1, e0, p, e2, e3, hp⟩, ⟨v2, d1, d0, q, vs, d2, d3, hq, r⟩, h1⟩ := h1
      subst e3 d3
      have hv : v2 = .ref s.q := d0 _ rfl
      have hqq : q = s.q := V.ref.inj (d2.symm.trans hv)
      subst hqq
      refine ⟨sm, [p, s.q] :: [] :: fs, ⟨⟨v, e1, e0, p, s.q, e2, rfl, hp, by rw [hq, ints_of r]⟩, rfl, h1⟩, ?_, ?_⟩
      · exact h2
      · exact h3
/-- two slots, alone -/
theorem Env.pick0 {c : Cell} (E : Env K I H σ (c :: Γ) ρ Θ) : ∃ o σ1, σ = o :: σ1 ∧ EnvL K I H ((o, c) :: (σ1.zip Γ ++ ρ.zip Θ)) ∧ σ1.length = Γ.length := by
  cases σ with
  | nil => have := E.1; simp at this
  | cons o σ => exact ⟨o, σ, rfl, E.2.2, by have := E.1; simpa using this⟩
theorem zip_at' {σ : List (Option V)} (l : σ.length = Γ.length) {c : Cell} (h : Γ[i]? = some c) : ∃ o, σ[i]? = some o := by
  have hl : i < Γ.length := (List.getElem?_eq_some_iff.mp h).1
  exact ⟨σ[i]'(by rw [l]; exact hl), List.getElem?_eq_getElem _⟩
/-- great = source[0] -/
theorem st_srcOpen {s : Src} (E : Env K I H σ (.own s pn :: Γ) ρ Θ) (hi : i < Γ.length)
    (next : ∀ q σ', Env K I H σ' (.own (⟨q, s.seed, s.n⟩ : SrcH) pn :: Γ.set i (.own s.cells (some (.ref q)))) ρ Θ → dn σ' H) : tAsg (tOp (rIxL K) (tVar 0) (tC (.int 0))) (gName (i + 1)) ⟨dn, dr, db, dc⟩ σ H := by
  obtain ⟨o, σ1, rfl, e, l⟩ := E.pick0
  obtain ⟨q, e2, p, rfl, hp⟩ := e.srcOpen
  refine ⟨_, rfl, p, _, 0, .ref q, rfl, rfl, SqL.of hp, rfl, next q _ ?_⟩
  have E2 : Env K I H (some (.ref p) :: σ1) (.own (⟨q, s.seed, s.n⟩ : SrcH) pn :: Γ) (some (.ref q) :: ρ) (.own s.cells (some (.ref q)) :: Θ) :=
    ⟨E.1, by simp [E.2.1], e2.perm (List.Perm.cons _ List.perm_middle.symm)⟩
  exact E2.store (i := i + 1) (by simpa using hi) rfl
theorem hf_src1 {s : SrcH} (hΓ : Γ[0]? = some (.own s pn)) : HF K (tOp (rIxL K) (tVar 0) (tC (.int 1))) Γ (.ok s.seed) := .mk fun X Q E q => by
  obtain ⟨o, r, ho, e, _⟩ := E.pick hΓ
  obtain ⟨_, fs, h1, _⟩ := e
  cases fs with
  | nil => exact h1.elim
  | cons f fs =>
    obtain ⟨v, e1, _, p, e2, _, hp⟩ := h1.1
    have e1 : o = some v := e1
    subst e1 e2
    exact ⟨_, ho, p, _, 1, _, rfl, rfl, SqL.of hp, rfl, q trivial⟩
theorem hf_src2 {s : SrcH} (hΓ : Γ[0]? = some (.own s pn)) : HF K (tOp (rIxL K) (tVar 0) (tC (.int 2))) Γ (.ok s.n) := .mk fun X Q E q => by
  obtain ⟨o, r, ho, e, _⟩ := E.pick hΓ
  obtain ⟨_, fs, h1, _⟩ := e
  cases fs with
  | nil => exact h1.elim
  | cons f fs =>
    obtain ⟨v, e1, _, p, e2, _, hp⟩ := h1.1
    have e1 : o = some v := e1
    subst e1 e2
    exact ⟨_, ho, p, _, 2, _, rfl, rfl, SqL.of hp, rfl, q trivial⟩
/-- source[2] = e -/
theorem EnvL.srcSet {s : SrcH} {p : Addr} {y : Int} (h : EnvL K I H ((some (.ref p), .own s pn) :: es)) : EnvL K I (upd H p (.lst [.ref s.q, .int s.seed, .int y])) ((some (.ref p), .own (⟨s.q, s.seed, y⟩ : SrcH) pn) :: es) := by
  obtain ⟨sm, fs, h1, h2, h3⟩ := h
  cases fs with
  | nil => exact h1.elim
  | cons f fs =>
    obtain ⟨⟨v, e1, e0, p', e2, e3, hp⟩, h1⟩ := h1
    cases e1
    cases e2
    subst e3
    rw [List.flatten_cons] at h2 h3
    have hn := List.nodup_append.mp h2
    have npf : ∀ a ∈ fs.flatten, a ≠ p := fun a ha q => hn.2.2 p (by simp) a ha q.symm
    have pI := (h3 p (by simp)).1
    refine ⟨fun a u e => ?_, [p] :: fs, ⟨⟨_, rfl, e0, p, rfl, rfl, upd_same⟩, Ents.mono (Same.refl _) (fun a ha => upd_ne (npf a ha)) h1⟩, by rw [List.flatten_cons]; exact h2, fun a ha => ?_⟩
    · rw [upd_ne (ne_of_none e pI)]
      exact sm a u e
    · rw [List.flatten_cons] at ha
      refine ⟨(h3 a ha).1, ?_⟩
      by_cases hap : a = p
      · rw [hap, upd_same]; exact fun z => nomatch z
      · rw [upd_ne hap]; exact (h3 a ha).2
theorem st_srcSet {s : SrcH} {y : Int} {dn : L2.St → Hp → Prop} (E : Env K I H σ (.own s pn :: Γ) (some v :: ρ) (.im y :: Θ))
    (next : ∀ H', Env K I H' σ (.own (⟨s.q, s.seed, y⟩ : SrcH) pn :: Γ) ρ Θ → dn σ H') : gSub (tVar 0) (tC (.int 2)) rSetL v σ H dn := by
  obtain ⟨ev, _⟩ := E.topS
  subst ev
  obtain ⟨o, σ1, rfl, e, l⟩ := (Env.pop E).pick0
  obtain ⟨_, fs, h1, _⟩ := id e
  cases fs with
  | nil => exact h1.elim
  | cons f fs =>
    obtain ⟨w, e1, _, p, e2, _, hp⟩ := h1.1
    have e1 : o = some w := e1
    subst e1 e2
    exact ⟨_, rfl, p, _, 2, 2, rfl, rfl, hp, rfl, next _ ⟨E.1, E.len, e.srcSet⟩⟩
/-- at the end -/
theorem Env.srcClose {s : SrcH} {xs : List Int} {c1 : Cell} (E : Env K I H σ (.own s pn :: c1 :: .own xs (some (.ref s.q)) :: Γ) ρ Θ) : Env K I H σ (.own (⟨xs, s.seed, s.n⟩ : Src) pn :: c1 :: .any :: Γ) ρ Θ := by
  obtain ⟨o, σ1, rfl, e, l⟩ := E.pick0
  cases σ1 with
  | nil => simp at l
  | cons o1 σ1 =>
    cases σ1 with
    | nil => simp at l
    | cons o2 σ1 =>
      refine ⟨E.1, E.2.1, ?_⟩
      have p1 : ((o, Cell.own s pn) :: ((o1 :: o2 :: σ1).zip (c1 :: .own xs (some (.ref s.q)) :: Γ) ++ ρ.zip Θ)).Perm ((o, Cell.own s pn) :: (o2, .own xs (some (.ref s.q))) :: (o1, c1) :: (σ1.zip Γ ++ ρ.zip Θ)) := (List.Perm.swap _ _ _).cons _
      have z := (e.perm p1).srcClose
      exact z.perm ((List.Perm.swap _ _ _).cons _)
/-- [cells, seed, n] -/
theorem st_newSrc {a b : Int} {xs : List Int} (E : Env K I H σ Γ (some v3 :: some v2 :: some v1 :: ρ) (.im b :: .im a :: .own xs pn :: Θ)) (next : ∀ H' v, Env K I H' σ Γ (some v :: ρ) (.own (⟨xs, a, b⟩ : Src) :: Θ) → Q v H') :
    LsG [v1, v2, v3] H Q := by
  refine ⟨line_of (by decide : (3 : Nat) ≤ line), fun p hp => next _ _ ?_⟩
  obtain ⟨e3, _⟩ := E.topS
  obtain ⟨e2, _⟩ := E.pop.topS
  subst e3 e2
  have e := E.pop.pop.unstack
  have hI := e.none_of hp
  obtain ⟨sm, fs, h1, h2, h3⟩ := e
  cases fs with
  | nil => exact h1.elim
  | cons f fs =>
    obtain ⟨⟨w, d1, _, q, vs, d2, d3, hq, r⟩, h1⟩ := h1
    have d1 : v1 = w := Option.some.inj d1
    subst d1 d2 d3
    have hn : ∀ a ∈ ([q] :: fs).flatten, a ≠ p := fun a ha z => (h3 a ha).2 (by rw [z]; exact hp)
    have hqp : q ≠ p := hn q (by simp)
    refine ⟨E.1, by have := E.pop.pop.len; simpa using this, ?_⟩
    have z : EnvL K I (upd H p (.lst [.ref q, enc a, enc b])) ((some (.ref p), .own (⟨xs, a, b⟩ : Src)) :: (σ.zip Γ ++ ρ.zip Θ)) := by
      refine ⟨fun a u e => ?_, [p, q] :: fs, ⟨⟨_, rfl, (fun _ z => nomatch z), p, q, rfl, rfl, upd_same, by rw [upd_ne hqp, hq, ints_of r]⟩, Ents.mono (Same.refl _) (fun a ha => upd_ne (hn a (by simp at ha ⊢; exact .inr ha))) h1⟩, ?_, fun a ha => ?_⟩
      · rw [upd_ne (ne_of_none e hI)]
        exact sm a u e
      · show (p :: ([q] :: fs).flatten).Nodup
        exact List.nodup_cons.mpr ⟨fun z => hn p z rfl, h2⟩
      · have ha : a ∈ p :: ([q] :: fs).flatten := ha
        rcases List.mem_cons.mp ha with ha | ha
        · subst ha
          exact ⟨hI, by rw [upd_same]; exact fun z => nomatch z⟩
        · exact ⟨(h3 a ha).1, by rw [upd_ne (hn a ha)]; exact (h3 a ha).2⟩
    exact z.perm List.perm_middle.symm
/-! pop -/
theorem st_popAt [Rep α] {xs : List α} {k : α × List α → Res ω} {l : Addr} {m : Int} (E : Env K I H σ Γ (some v :: ρ) (.im m :: Θ)) (hl : σ[i]? = some (some (.ref l))) (hΓ : Γ[i]? = some (.own xs pn)) (h : wp ((lPopAt xs m).bind k) P X)
    (next : ∀ y H' w, Env K I H' σ (Γ.set i (.own y.2 pn)) (some w :: ρ) (.im y.1 :: Θ) → wp (k y) P X → Q w H') : rPopAt (.ref l) [v] H Q := by
  obtain ⟨ev, _⟩ := E.topS
  subst ev
  obtain ⟨p, vs, hs, hp, _, q, ch, _⟩ := (Env.pop E).ownAt hΓ
  have e : l = p := by
    rw [hl] at hs
    exact V.ref.inj (Option.some.inj (Option.some.inj hs))
  subst e
  have hlen : vs.length = xs.length := Paired.length q
  unfold lPopAt at h
  rw [clo_eq] at h
  split at h
  · rename_i hb
    cases e2 : seqIndex? m xs.length with
    | none => rw [e2] at h; exact h.elim
    | some n =>
      rw [e2] at h
      dsimp only at h
      cases e3 : xs[n]? with
      | none => rw [e3] at h; exact h.elim
      | some y =>
        rw [e3] at h
        have hn := (List.getElem?_eq_some_iff.mp e3).1
        have hv : vs[n]? = some (vs[n]'(by omega)) := List.getElem?_eq_getElem (by omega)
        refine ⟨l, vs, m, n, _, rfl, rfl, hp, hb.1, hb.2, by rw [hlen]; exact e2, hv, next (y, xs.eraseIdx n) _ _ ?_ h⟩
        exact (ch (Grow.refl E.same) _ _ (paired_erase (k := n) q)).push (paired_at q hv e3)
  · exact h.elim
theorem st_pop [Rep α] {xs : List α} {k : α × List α → Res ω} {l : Addr} (E : Env K I H σ Γ ρ Θ) (hl : σ[i]? = some (some (.ref l))) (hΓ : Γ[i]? = some (.own xs pn)) (h : wp ((lPop xs).bind k) P X)
    (next : ∀ y H' w, Env K I H' σ (Γ.set i (.own y.2 pn)) (some w :: ρ) (.im y.1 :: Θ) → wp (k y) P X → Q w H') : rPop (.ref l) [] H Q := by
  obtain ⟨p, vs, hs, hp, _, q, ch, _⟩ := E.ownAt hΓ
  have e : l = p := by
    rw [hl] at hs
    exact V.ref.inj (Option.some.inj (Option.some.inj hs))
  subst e
  have hlen : vs.length = xs.length := Paired.length q
  unfold lPop at h
  cases e3 : xs[xs.length - 1]? with
  | none => rw [e3] at h; exact h.elim
  | some y =>
    rw [e3] at h
    have hn := (List.getElem?_eq_some_iff.mp e3).1
    obtain ⟨w, hv⟩ : ∃ w, vs[xs.length - 1]? = some w := ⟨_, List.getElem?_eq_getElem (by omega)⟩
    refine ⟨l, vs, w, rfl, rfl, hp, by rw [hlen]; exact hv, next (y, xs.dropLast) _ _ ?_ h⟩
    exact (ch (Grow.refl E.same) _ _ (paired_dropLast q)).push (paired_at q hv e3)
end
end M
namespace M
open PySem PySem.Spec PyProof.Rows L2
/-! ### defs that raise, exceptions without a context -/
theorem passN {X : Cx} : Passes (L2N.CX X.prog X.w) X E0 := fun _ _ _ _ _ _ _ h => by
  obtain ⟨_, _, _, _, _, _, _, _, _, _, _, _, z⟩ := h
  exact z.elim
theorem takesN0 {X : Cx} : L2N.Takes X (fun _ _ _ _ => False) := fun _ _ x => by
  obtain ⟨_, _, _, _, _, _, _, _, _, _, _, _, _, _, _, _, z⟩ := x
  exact z.elim
section
variable {P : Program} {w : World} {K : PySem.W.Frag} {mg : Str → Option Value} {base : Heap}
theorem okN {x qual : Str} {st : Stmt} {f : Addr} {fd : FuncData} {N ps : List Str} {k : Nat} {sp : Sp} (F : Fun K x qual st f fd) (S : FnScope N ps (defScope st)) (len : ∀ vs H Q E, sp vs H Q E → vs.length = ps.length)
    (hbody : ∀ (cdv : Value) (A : Around) (outer : List PySem.Env) (s : Shared) (H : Hp) (vs : List V) (Q : VK) (E : XK), Room k (A.deeper (envOfC qual (defScope st) s.heap.objs.size f cdv)) → sp vs H Q E →
      ∃ t, PSs (cxOf (L2N.CX P w) P w K mg base N qual (defScope st) f cdv A outer s H E) (defBody st) t ∧ t { nx := fun _ H' => Q .non H', rt := Q } (L2.start N vs) H) : FnOk P w K mg base (L2N.CX P w) (k + 1) f fd ps sp := by
  obtain ⟨oc, od, kV, doc, pm, an, cdv, ct, osl, rfl, lk, hcd⟩ := F.ex
  exact fn_of lk hcd S len fun A outer s H vs Q E hr hsp => hbody cdv A outer s H vs Q E hr hsp
theorem okH {x qual : Str} {st : Stmt} {f : Addr} {fd : FuncData} {N ps : List Str} {k : Nat} {sp : Sp} (F : Fun K x qual st f fd) (S : FnScope N ps (defScope st)) (len : ∀ vs H Q E, sp vs H Q E → vs.length = ps.length)
    (hbody : ∀ (cdv : Value) (A : Around) (outer : List PySem.Env) (s : Shared) (H : Hp) (vs : List V) (Q : VK) (E : XK) (p : Addr × Obj), L2H.Hot1 A p → L2H.RoomH k (A.deeper (envOfC qual (defScope st) s.heap.objs.size f cdv)) → sp vs H Q E →
      ∃ t, PSs (L2H.cxH (L2N.CX P w) P w K mg base N qual (defScope st) f cdv A outer s H E p) (defBody st) t ∧ t { nx := fun _ H' => Q .non H', rt := Q } (L2.start N vs) H) : L2H.FnH P w K mg base (L2N.CX P w) (k + 1) f fd ps sp := by
  obtain ⟨oc, od, kV, doc, pm, an, cdv, ct, osl, rfl, lk, hcd⟩ := F.ex
  exact L2H.fn_ofH lk hcd S len fun A outer s H vs Q E p hot hr hsp => hbody cdv A outer s H vs Q E p hot hr hsp
end
/-- C(e, ..), an own exception with __init__, made where none is handled -/
theorem pmk_oexN {X : Cx} {CX : CXT} {x : Str} {e : Expr} {es : List Expr} {ta : TA} {p pos : Pos} {C fI : Addr} {k : Nat} {fd : FuncData} {ps : List Str} {sp : Sp} (T : OexC X.K C) (iC : PySem.W.findIn X.K (.ref C) "__init__" = some (some (.ref fI)))
    (tI : PySem.W.typeIn X.K (.ref fI) = some (.type "function")) (F1 : FnOk X.prog X.w X.K X.mg X.base CX k fI fd ps sp) (hr : Room (k + 1) X.A) (hb : Binds X.K fd ps []) (hx : Passes CX X (fun _ _ _ => False)) (hg : Gl X x) (hm : X.mg x = some (.ref C)) (ha : PA X (e :: es) ta)
    (hdb : (x == ("__debug__" : Str)) = false := by decide) (he : starEach (e :: es) X.env = (false, eval e X.env) :: starEach es X.env := by rfl) (hpl : (backTo pos (starEach es X.env)).any (·.1) = false := by rfl) :
    L2N.PMk X (.Call (.Name x p) (e :: es) [] pos) (tMkO C sp [] ta) := by
  intro pins s σ H Q I h
  obtain ⟨nm, q, N, bs, bm, sn, sub, ab, col, dd, k0, k1, k2, k3, k5, hC, hbm⟩ := T.cls
  refine wpAny_Call_Name_kw (ld_glob I hg hm ?_ hdb)
  refine PySem.W.callWith_K (h₀ := X.base) I.ok.mod.kin T.kC (thn (ha.run pos pins s σ H _ I h) fun us s1 ⟨vs, H1, I1, r1, hz, q1⟩ => ⟨I1.kIn, ?_⟩) he hpl
  show wpAny _ _ (call (.ref C) us) _ _ _
  obtain ⟨hp, g, dr, tk, os⟩ := s1
  have hsz : hp.objs.size ≤ hp.objs.size + 1 := Nat.le_succ _
  have hn : H1 (hp.objs.size + 1) = none := I1.hok.fresh hsz
  have hq := q1 (hp.objs.size + 1) hn
  rw [List.append_nil] at hq
  have kk : ∀ b o, hp.get? b = some o → ((hp.push (PySem.W.kdv_tup us)).push (PySem.HandSPX.excO C hp.objs.size)).get? b = some o := fun b o e => Heap.get?_push_of_some _ (Heap.get?_push_of_some _ e)
  have hget : ((hp.push (PySem.W.kdv_tup us)).push (PySem.HandSPX.excO C hp.objs.size)).get? (hp.objs.size + 1) = some (PySem.HandSPX.excO C hp.objs.size) := by heap_get
  have I2 : Inv X pins σ (upd H1 (hp.objs.size + 1) (exo (hp.objs.size + 1) C none)) ⟨(hp.push (PySem.W.kdv_tup us)).push (PySem.HandSPX.excO C hp.objs.size), g, dr, tk, os⟩ :=
    I1.laid (t' := tk) (a := hp.objs.size + 1) (o := exo (hp.objs.size + 1) C none) (h' := (hp.push (PySem.W.kdv_tup us)).push (PySem.HandSPX.excO C hp.objs.size)) kk hsz (exo_ok hget)
  have r2 : Vals (V.ref (hp.objs.size + 1) :: vs) (Value.ref (hp.objs.size + 1) :: us) := .cons rfl r1
  have hl : (Value.ref (hp.objs.size + 1) :: us ++ []).length = ps.length := by
    have e := r2.length
    rw [F1.len _ _ _ _ hq] at e
    rw [List.append_nil]
    exact e.symm
  have hus : us.length ≤ sizeLine := by
    rw [← Paired.length r1, sizeLine_eq]
    omega
  have b2 := hb _ (Value.ref (hp.objs.size + 1) :: us) I2.kIn hl
  rw [List.append_nil] at b2
  refine wpAny_call (PySem.HandSPX.call_own F.excBase_ValueError (fun Y => PySem.HandSPX.refsVE_contains Y bm hbm) (I1.kIn _ _ hC) (PySem.W.looks_findIn I1.kIn iC) (fun self => PySem.W.bind_fn I1.kIn self tI) hus
    (codeAny_mono (F1.run _ X.stack _ _ ⟨Value.ref (hp.objs.size + 1) :: us, []⟩ (Value.ref (hp.objs.size + 1) :: us) _ _ (fun _ _ _ => False) (hr.make C us []) (I2.env0.make C us []) b2 r2 hq) fun r s' hq' => ?_))
  cases r with
  | error er => exact hx pins σ _ _ er s' I2 hq'
  | ok fl =>
    cases fl with
    | ret u =>
      obtain ⟨v, H2, os2, bare2, un2, hok2, rv, ev, d, fs, ea, ed, hd1, q2⟩ := hq'
      subst ev
      obtain ⟨h2, g2, d2, t2, os'⟩ := s'
      obtain ⟨t0, G, J, kG, ge, hoe, na⟩ := mk_end0 (d2 := d2) (t2 := t2) I1 hsz kk un2 hok2 os2 bare2 ea ed hd1
      refine ⟨rv, hp.objs.size + 1, _, _, ⟨G, g2, d2, t2, os'⟩, _, .ref C, some d, rfl, J, kG, ge, hoe, ⟨rfl, rfl, fun vs hv => ?_⟩, rfl, rfl, na, rfl, bare2, raises_own T.exC T.tyC, q2⟩
      cases hv
      rfl
    | next => exact False.elim hq'
    | brk => exact False.elim hq'
    | cont => exact False.elim hq'
/-- what the top says of such a class -/
structure ExcN (P : Program) (w : World) (K : PySem.W.Frag) (mg : Str → Option Value) (base : Heap) (x f : Str) (C fI : Addr) (fd : FuncData) : Prop where
  gC : mg x = some (.ref C)
  T : OexC K C
  iC : PySem.W.findIn K (.ref C) "__init__" = some (some (.ref fI))
  tI : PySem.W.typeIn K (.ref fI) = some (.type "function")
  ini : FnOk P w K mg base (L2N.CX P w) 1 fI fd ["self", f] (spIni C f)
  bI : Binds K fd ["self", f] []
  ec : ExcC K C
  xf : XfC K C
  no : PySem.W.findIn K (.ref C) f = some none
end M
namespace PySem.W
open PySem PySem.Spec PySem.Calls PyProof.Rows
section
variable {prog : Program} {w : World} {A : Around} {E : Value → Shared → Prop} {s : Shared} {K : Frag} {x D : Addr} {ox : Obj} {od : Option Obj}
/-- a caught error's class, whatever fields it bears -/
theorem kit_excM (C : L2.ExcC K D) : KitX K (.ref x) (.ref D) (fun h => InstAt h x ox D od) where
  ty := fun _ _ _ I => I.type
  it := fun M h X I => by
    obtain ⟨cdD, hcD, _⟩ := any_some C.hd
    unfold clsIn at hcD
    split at hcD
    · rename_i c' d' cd' sl' ho
      intro A' Q' E' s' k q
      unfold isType loadHead
      exact wpAny_bind (wpAny_loadPart (k _ _ (X _ _ ho)) (wpAny_pure q))
    · cases hcD
  ne := fun h tp dd its n sl X htp => (handS_kitx_exc (x := x) (ox := ox) C.hg C.hk C.hs C.hd C.ha C.hn C.ht C.hm).ne h tp dd its n sl X htp
  ca := fun {prog w A E Q s} X I h => by
    have hf : findObj K D od "__class__" = some (.bind (.builtin "getset_descriptor.__get__") (.builtin "object.__class__")) := by
      obtain ⟨cd, hc, _⟩ := any_some C.hd
      unfold findObj
      rw [hc, Option.bind_some, C.ha, Option.bind_some]
      simp [C.hn, C.ht]
    obtain ⟨hp, g, d, t, os⟩ := s
    have L0 := I.type (M := model prog w)
    have L1 := looks_findIn (M := model prog w) X C.hg
    have L2 := looks_findIn (M := model prog w) X C.hk
    have L3 := looks_find (M := model prog w) X I hf
    have sub : Looks (model prog w) hp (isInstance (.ref x) (.type "BaseException")) true := L0.andThen (looks_subIn X C.hs)
    have hx2 : (Value.builtin "BaseException.__getattribute__" == Value.builtin "object.__getattribute__") = false := by decide +kernel
    have hx1 : (onTheHeap (Value.ref D) && Value.builtin "BaseException.__getattribute__" == Value.builtin "object.__getattribute__") = false := by rw [hx2]; rfl
    unfold getAttr? getAttrBy? getAttrBy
    refine wpAny_bind (wpAny_mkText (wpAny_bind (wpAny_attempt (wpAny_holding (wpAny_bind (L0.at (wpAny_bind (L1.at ?_))))))))
    show wpAny _ _ (if (onTheHeap (Value.ref D) && Value.builtin "BaseException.__getattribute__" == Value.builtin "object.__getattribute__") = true then _ else _) _ _ _
    rw [hx1, if_neg Bool.false_ne_true]
    unfold getAttrByItsOwn hookBefore
    refine wpAny_bind ?_
    rw [if_pos (show onTheHeap (Value.ref D) = true from rfl)]
    refine L2.at (wpAny_bind (wpAny_attempt (wpAny_holding ?_)))
    unfold callGetattribute
    rw [show (false && onTheHeap (Value.builtin "BaseException.__getattribute__")) = false from rfl, if_neg Bool.false_ne_true]
    unfold boundAndCalled
    rw [PySem.F.excAttr_ValueError.ga.bind (.ref x)]
    refine wpAny_bind (wpAny_pure ?_)
    show wpAny _ _ (call (.builtin "BaseException.__getattribute__") [.ref x, .str "__class__" t]) _ _ _
    refine wpAny_call (codeAny_call_builtin PySem.F.excAttr_ValueError.ga.plain PySem.F.entry_bexc_ga ?_)
    refine @check_slot (model prog w) _ _ ⟨hp, g, d, t + 1, os⟩ "BaseException.__getattribute__" "BaseException" "__getattribute__" (.ref x) [.str "__class__" t] [] _ (by decide +kernel) (by decide +kernel) sub (PySem.F.args_bexc_ga (.ref x) (.str "__class__" t)) ?_
    unfold Builtin.«object.__getattribute__»
    refine wpAny_bind (wpAny_of_eq (a := ((Value.ref x : Value), [Value.str "__class__" t])) (by first | rfl | (simp only [slotArgs]; rfl)) ?_)
    refine wpAny_bind (wpAny_pure (wpAny_bind (L0.at (wpAny_bind (L3.at ?_)))))
    show wpAny _ _ (holding [Value.builtin "object.__class__"] (call (.builtin "getset_descriptor.__get__") [.builtin "object.__class__", .ref x, .ref D]) >>= ret) _ _ _
    refine wpAny_bind (wpAny_holding (wpAny_call (class_get (s := ⟨hp, g, d, t + 1, os⟩) (ox := ox) (od := od) X I C.hm (wpAny_pure ?_))))
    show wpAny _ _ (handedOut (.ref D)) _ _ _
    rw [handedOut_of (v := .ref D) rfl]
    first
      | exact wpAny_pure (wpAny_pure h)
      | exact wpAny_pure h
      | exact wpAny_pure (wpAny_bind (wpAny_pure (wpAny_pure h)))
end
end PySem.W
namespace M
open PySem PySem.Spec PyProof.Rows L2
/-- isinstance(e, c), e the caught exception; its class and its fields are wished for -/
def rIsX (K : PySem.W.Frag) (a : Addr) (cls : Value) (d : Option Addr) : List V → Hp → VK → Prop := fun xs H Q => ∃ (D : Addr) (c : V) (cv : Value) (b : Bool), xs = [.ref a, c] ∧ (∀ u, RelV c u → u = cv) ∧ cls = .ref D ∧ (d = none ∨ ∃ dd fs, d = some dd ∧ H dd = some (.xd fs)) ∧ ExcC K D ∧ PySem.W.kitOne K (.ref D) cv = some b ∧ Q (.bl b) H
theorem call_isX {X : Cx} {a : Addr} {oe : Obj} {cls : Value} {d : Option Addr} {pn : List (Addr × Obj)} (hz : Zc cls d oe) (hf : ∃ vs, oe.data = .fields vs) : CallR (X.suite a ((a, oe) :: pn)) (.builtin "isinstance") (rIsX X.K a cls d) := by
  intro pins s σ H xs us Q I r h
  obtain ⟨D, c, cv, b, rfl, hcv, rfl, hdd, C, e, q⟩ := h
  cases r with
  | cons rx rr =>
    cases rr with
    | cons rt rr =>
      cases rr
      cases rx
      have ec := hcv _ rt
      subst ec
      obtain ⟨hget, _⟩ := I.pin (a, oe) (List.mem_append.mpr (.inl List.mem_cons_self))
      obtain ⟨vs, hv⟩ := hf
      obtain ⟨od, J⟩ : ∃ od, PySem.W.InstAt s.heap a oe D od := by
        rcases hdd with rfl | ⟨dd, fs, rfl, hdd⟩
        · exact ⟨none, hget, hz.1, by unfold PySem.W.notCls; rw [hv] <;> rfl, by rw [hz.2]; trivial⟩
        · have hx : ObjOk X.prog X.w H s.heap dd (.xd fs) := I.hok dd _ hdd
          obtain ⟨mA, hns, hr⟩ := hx
          obtain ⟨od, ho, hl⟩ := lookIn_ns hns
          exact ⟨some od, hget, hz.1, by unfold PySem.W.notCls; rw [hv] <;> rfl, by rw [hz.2]; exact ho⟩
      exact PySem.W.kia_one (PySem.W.kit_excM C) I.kIn J e (fun z => nomatch z) fun tk => ⟨.bl b, H, I.kept (t' := tk) fun _ _ z => z, rfl, q⟩
/-- what a slot holds that names the caught exception -/
structure ExV where
  a : Addr
  d : V
  e : Exn
instance repExV : Rep ExV where
  rp K I v x := v = .ref x.a ∧ XDr I x.d x.e.fs
  mono := fun e ⟨e1, h⟩ => ⟨e1, h.mono e⟩
def Res.catch {α : Type} (m : Res α) (f : Exn → Res α) : Res α := match m with | .exc e => f e | .ok a => .ok a | .bad => .bad
@[simp] theorem Res.catch_ok {α : Type} (a : α) (f : Exn → Res α) : (Res.ok a).catch f = .ok a := rfl
@[simp] theorem Res.catch_exc {α : Type} (e : Exn) (f : Exn → Res α) : (Res.exc e).catch f = f e := rfl
theorem wp_catch {α : Type} {m : Res α} {f : Exn → Res α} {P : α → Prop} {X : Exn → Prop} (h : wp (m.catch f) P X) : wp m P (fun e => wp (f e) P X) := by cases m <;> exact h
/-- a test of the class -/
def IsOk (K : PySem.W.Frag) (cls cv : Value) (m : Res Bool) : Prop := m = .bad ∨ ∃ D b, cls = .ref D ∧ ExcC K D ∧ PySem.W.kitOne K (.ref D) cv = some b ∧ m = .ok b
/-- a field: of the class c -/
def fldI (c f : Str) (e : Exn) : Res Int := if e.cls = c then (match e.fs.lookup f with | some (.int i) => .ok i | _ => .bad) else .bad
def fldT (c f : Str) (e : Exn) : Res Tx := if e.cls = c then (match e.fs.lookup f with | some (.str s) => if s.cps.toList.length ≤ line then .ok s.cps.toList else .bad | _ => .bad) else .bad
section
variable {K : PySem.W.Frag} {mg : Str → Option Value} {I I1 H I' H' : Hp} {σ σ' ρ : List (Option V)} {Γ Γ' Γ1 Θ : List Cell} {i j n : Nat} {v d : V} {Q : VK} {a : Addr} {e : Exn} {cls cv : Value} {c : V}
theorem hf_isX {m : Res Bool} (hΓ : Γ[i]? = some (.im (⟨a, d, e⟩ : ExV))) (hc : ∀ u, RelV c u → u = cv) (h : IsOk K cls cv m) : HF K (tCB (rIsX K a cls (dOf d)) (tCons (tVar i) (tCons (tC c) tNil))) Γ m := .mk fun X Q E q => by
  obtain ⟨v, ho, e1, hd⟩ := E.get hΓ
  subst e1
  rcases h with rfl | ⟨D, b, e2, C, k, rfl⟩
  · exact q.elim
  · refine ⟨_, ho, D, c, cv, b, rfl, hc, e2, ?_, C, k, q trivial⟩
    rcases hd with ⟨_, e3⟩ | ⟨dd, e3, h3⟩
    · rw [show d = .non from e3]
      exact .inl rfl
    · rw [show d = .ref dd from e3]
      exact .inr ⟨dd, _, rfl, E.same _ _ h3⟩
theorem hf_fldI {C : Addr} {x f : Str} (hΓ : Γ[i]? = some (.im (⟨a, d, e⟩ : ExV))) (hm : mg e.cls = some cls) (hC : mg x = some (.ref C)) : HF K (tXf a cls (dOf d) C f (tVar i)) Γ (fldI x f e) := .mk fun X Q E q => by
  obtain ⟨v, ho, e1, hd⟩ := E.get hΓ
  subst e1
  unfold fldI at q
  split at q
  · rename_i hx
    rw [hx, hC] at hm
    have hcl : cls = .ref C := (Option.some.inj hm).symm
    cases e3 : e.fs.lookup f with
    | none => rw [e3] at q; exact q.elim
    | some y =>
      rw [e3] at q
      cases y with
      | int i =>
        obtain ⟨dd, e4, h4⟩ := hd.resolve_left fun z => by rw [show e.fs = [] from z.1] at e3; cases e3
        exact ⟨_, ho, rfl, hcl, dd, e.fs, _, by rw [show d = .ref dd from e4]; rfl, E.same _ _ h4, e3, q trivial⟩
      | _ => exact q.elim
  · exact q.elim
theorem hf_fldT {C : Addr} {x f : Str} (hΓ : Γ[i]? = some (.im (⟨a, d, e⟩ : ExV))) (hm : mg e.cls = some cls) (hC : mg x = some (.ref C)) : HF K (tXf a cls (dOf d) C f (tVar i)) Γ (fldT x f e) := .mk fun X Q E q => by
  obtain ⟨v, ho, e1, hd⟩ := E.get hΓ
  subst e1
  unfold fldT at q
  split at q
  · rename_i hx
    rw [hx, hC] at hm
    have hcl : cls = .ref C := (Option.some.inj hm).symm
    cases e3 : e.fs.lookup f with
    | none => rw [e3] at q; exact q.elim
    | some y =>
      rw [e3] at q
      cases y with
      | str s =>
        dsimp only at q
        split at q
        · rename_i hl
          obtain ⟨dd, e4, h4⟩ := hd.resolve_left fun z => by rw [show e.fs = [] from z.1] at e3; cases e3
          exact ⟨_, ho, rfl, hcl, dd, e.fs, _, by rw [show d = .ref dd from e4]; rfl, E.same _ _ h4, e3, q hl⟩
        · exact q.elim
      | _ => exact q.elim
  · exact q.elim
/-- into the suite: e is bound -/
theorem Env.caught (E : Env K I H σ Γ (some d :: ρ) (.im (XD.mk e.fs) :: Θ)) (hi : i < Γ.length) : Env K I H (σ.set i (some (.ref a))) (Γ.set i (.im (⟨a, d, e⟩ : ExV))) ρ Θ := by
  have hd : XDr I d e.fs := E.topR
  have E2 : Env K I H σ Γ (some (.ref a) :: ρ) (.im (⟨a, d, e⟩ : ExV) :: Θ) := (Env.pop E).push ⟨rfl, hd⟩
  exact E2.store hi rfl
/-- what the clause 'except c as e' wishes, from a walk through its suite -/
theorem caught_as {c : Value} {ts : Addr → Value → Option Addr → TS} {Wout : WX} {D : Ends} (hx : ∀ cls, mg e.cls = some cls → PySem.W.exmOne K cls c = some true) (hi : i < Γ.length)
    (h : ∀ I H σ' a d cls, mg e.cls = some cls → Env K I H σ' (Γ.set i (.im (⟨a, d, e⟩ : ExV))) ρ Θ → ts a cls (dOf d) { nx := fun σ' H' => D.nx (σ'.set i none) H', rt := D.rt, bk := fun σ' H' => D.bk (σ'.set i none) H', ct := fun σ' H' => D.ct (σ'.set i none) H' } σ' H) :
    XWish K mg (wAs K c i ts Wout D) σ Γ ρ Θ e := fun I' H' cls d hm E => ⟨true, hx cls hm, fun _ a _ => h I' H' _ a d cls hm (E.caught hi), fun z => nomatch z⟩
theorem exm_all {c : Value} (h : ∃ cls, mg e.cls = some cls ∧ PySem.W.exmOne K cls c = some true) : ∀ cls, mg e.cls = some cls → PySem.W.exmOne K cls c = some true := fun cls hm => by
  obtain ⟨c2, h1, h2⟩ := h
  rw [h1] at hm
  rw [← Option.some.inj hm]
  exact h2
/-- a call while an exception is handled -/
theorem hot_suite {X : Cx} {a : Addr} {oe : Obj} {cls : Value} {d : Option Addr} {pn : List (Addr × Obj)} (hz : L2N.Zn cls d oe) (hf : ∃ vs, oe.data = .fields vs) : L2H.HotC (X.suite a ((a, oe) :: pn)) := by
  obtain ⟨vs, hv⟩ := hf
  exact ⟨(a, oe), ⟨rfl, vs, hv, hz.2.2 vs hv⟩, List.mem_cons_self⟩
end
end M
namespace M
open PySem PySem.Spec PyProof.Rows L2
/-! ### try: body, except c as e: suite -/
def tTryG (tb : WX → TS) (K : PySem.W.Frag) (c : Value) (i : Nat) (ts : Addr → Value → Option Addr → TS) : TS := fun D σ H => tb (wAs K c i ts (fun _ _ _ _ => False) D) D σ H
theorem ps_tryG {X : Cx} {x n : Str} {c : Value} {i : Nat} {body suite : List Stmt} {b₀ : Stmt} {np pos pos' : Pos} {tb : WX → TS} {ts : Addr → Value → Option Addr → TS}
    (hs : X.stack = X.env :: X.outer) (hf : X.env.frame = some X.env.locals) (hN : X.N.Nodup) (hi : X.N[i]? = some n) (hln : X.env.kindOf n = some .local) (hc : Names X x c)
    (hb : ∀ (W : WX) (pn : List (Addr × Obj)) (xe : Value → Shared → Prop), L2N.Takes (X.tr pn xe) W → PassesOwn (model X.prog X.w) X.A X.env xe → PSs (X.tr pn xe) body (tb W))
    (hsu : ∀ (a : Addr) (oe : Obj) (cls : Value) (d : Option Addr) (pn : List (Addr × Obj)), L2N.Zn cls d oe → (∃ vs, oe.data = .fields vs) → PSs (X.suite a ((a, oe) :: pn)) (b₀ :: suite) (ts a cls d)) :
    PS X (.Try body [.ExceptHandler (some (.Name x np)) (some n) (b₀ :: suite) pos'] [] [] pos) (tTryG tb X.K c i ts) := L2N.ps_try_as hs hf hN hi hln hc takesN0 hb hsu
theorem roomH_mk {k : Nat} {A : Around} (r : Room k A) (h : Option Value) : L2H.RoomH k (A.mark h) := ⟨r.dp, r.un⟩
section
variable {K : PySem.W.Frag} {mg : Str → Option Value} {I I1 H I' H' : Hp} {σ σ' ρ : List (Option V)} {Γ Γ' Γ1 Θ : List Cell} {i j n : Nat} {v d : V} {Q : VK} {a : Addr} {c : Value} {dn db dc : L2.St → Hp → Prop} {dr : VK}
variable {ω : Type} {P : ω → Prop} {X : Exn → Prop}
def TryP {ρτ S : Type} (K : PySem.W.Frag) (G : S → List Cell) (ρ : List (Option V)) (Θ : List Cell) (N : L2.St → Hp → Prop) (R : ρτ → Prop) : Lp ρτ S → Prop
  | .fin s => ∀ I' H' σ', Env K I' H' σ' (G s) ρ Θ → N σ' H'
  | .ret r => R r
theorem st_try {ρτ S : Type} {tb : WX → TS} {ts : Addr → Value → Option Addr → TS} {m : Res (Lp ρτ S)} {f : Exn → Res (Lp ρτ S)} {k : Lp ρτ S → Res ω} (ΓT : List Cell) (R : ρτ → Prop) (G : S → List Cell) (E : Env K I H σ Γ ρ Θ) (hi : i < ΓT.length) (h : wp ((m.catch f).bind k) P X)
    (ret : ∀ r, wp (k (.ret r)) P X → R r) (rest : ∀ s I' H' σ', Env K I' H' σ' (G s) ρ Θ → wp (k (.fin s)) P X → dn σ' H')
    (exm : ∀ e, wp (f e) (TryP K G ρ Θ dn R) X → ∀ cls, mg e.cls = some cls → PySem.W.exmOne K cls c = some true)
    (suite : ∀ e, wp (f e) (TryP K G ρ Θ dn R) X → ∀ I H σ' a d cls, mg e.cls = some cls → Env K I H σ' (ΓT.set i (.im (⟨a, d, e⟩ : ExV))) ρ Θ →
      ts a cls (dOf d) ⟨fun σ' H' => dn (σ'.set i none) H', dr, fun σ' H' => db (σ'.set i none) H', fun σ' H' => dc (σ'.set i none) H'⟩ σ' H)
    (body : (∀ e, wp (f e) (TryP K G ρ Θ dn R) X → ∀ σ, XWish K mg (wAs K c i ts (fun _ _ _ _ => False) ⟨dn, dr, db, dc⟩) σ ΓT ρ Θ e) → wp m (TryP K G ρ Θ dn R) (fun e => wp (f e) (TryP K G ρ Θ dn R) X) → tb (wAs K c i ts (fun _ _ _ _ => False) ⟨dn, dr, db, dc⟩) ⟨dn, dr, db, dc⟩ σ H) :
    tTryG tb K c i ts ⟨dn, dr, db, dc⟩ σ H := by
  have h2 : wp (m.catch f) (TryP K G ρ Θ dn R) X := wp_mono (wp_bind.mp h) (fun y q => by
    cases y with
    | fin s => exact fun I' H' σ' E' => rest s I' H' σ' E' q
    | ret r => exact ret r q) fun _ z => z
  exact body (fun e x σ => caught_as (exm e x) hi (suite e x)) (wp_catch h2)
/-- the suite's end: e is gone -/
theorem Env.gone (E : Env K I H σ Γ ρ Θ) (hi : i < Γ.length) (h : Γ.set i .any = Γ') : Env K I H (σ.set i none) Γ' ρ Θ := by
  subst h
  exact Env.anyOf (E.weak wkAny) hi
theorem wp_kn {b : Bool} {m : Res ω} (h : wp (if b = true then m else .bad) P X) : wp m P X := by
  cases b with
  | true => exact h
  | false => exact h.elim
theorem wp_knT {b : Bool} {m : Res ω} (h : wp (if b = true then m else .bad) P X) : b = true := by
  cases b with
  | true => rfl
  | false => exact h.elim
end
end M
namespace M
open PySem PySem.Spec PyProof.Rows L2
/-! ### the end -/
def clsBody (s : Stmt) : List Stmt := match s with
  | .ClassDef _ _ _ b _ _ _ _ _ _ _ => b
  | _ => []
def spLaw (m : Scr → Res Bool) (K : PySem.W.Frag) : Sp := fun vs H Q _ => ∃ a ns, vs = [.ref a] ∧ SqL K H a (ns.map V.int) ∧ m ⟨ns⟩ = .ok true ∧ ∀ H', Q (.bl true) H'
theorem spLaw_sp {m : Scr → Res Bool} {K : PySem.W.Frag} {mg : Str → Option Value} {vs : List V} {H : Hp} {Q : VK} {E : XK} (h : spLaw m K vs H Q E) : SpM K mg 1 (fun (a : Scr) => [.im a]) (fun a => m a) (fun b => .im b) vs H Q E := by
  obtain ⟨a, ns, rfl, hq, e, q⟩ := h
  refine ⟨rfl, ⟨ns⟩, H, [], [], ⟨rfl, rfl, Same.refl _, [[]], ⟨⟨rfl, _, rfl, a, rfl, hq⟩, trivial⟩, by simp, by simp⟩, ?_⟩
  show wp (m ⟨ns⟩) _ _
  rw [e]
  intro I' H' v E'
  obtain ⟨ev, _⟩ := E'.topS
  rw [ev]
  exact q H'
theorem spLaw_of {m : Scr → Res Bool} {n : Nat} (hm : ∀ ns : List Int, ns.length ≤ n → m ⟨ns⟩ = .ok true) (K : PySem.W.Frag) (H : Hp) (a : Addr) (ns : List Int) (hl : ns.length ≤ n) (hq : SqL K H a (ns.map V.int)) :
    spLaw m K [.ref a] H (fun v _ => v = .bl true) fun _ _ _ => False := ⟨a, ns, rfl, hq, hm ns hl, fun _ => rfl⟩
theorem no_CX {P : Program} {w : World} {H : Hp} {s : Shared} {e : Value} {s' : Shared} (h : L2N.CX P w [] H s (fun _ _ _ => False) e s') : False := by
  obtain ⟨_, _, _, _, _, _, _, _, _, _, _, _, z⟩ := h
  exact z
theorem kit_ref {K : PySem.W.Frag} {C T : Addr} {b : Bool} (hd : PySem.W.hasDictIn K T = true) (ht : PySem.W.typeIn K (.ref T) = some (.type "type")) (hs : PySem.W.subIn K (.ref C) (.ref T) = some b) (hc : PySem.W.subIn K (.ref C) (.ref C) = some true) :
    PySem.W.kitOne K (.ref C) (.ref T) = some b := by
  unfold PySem.W.kitOne
  by_cases e : C = T
  · subst e
    rw [hc] at hs
    rw [if_pos (beq_self_eq_true _), hs]
  · have ne : (Value.ref C == Value.ref T) = false := beq_eq_false_iff_ne.mpr fun z => e (Value.ref.inj z)
    rw [ne, if_neg Bool.false_ne_true]
    obtain ⟨cd, hcd, _⟩ := PySem.W.any_some hd
    show (if ((PySem.W.clsIn K T).isSome && PySem.W.typeIn K (.ref T) == some (.type "type")) = true then PySem.W.subIn K (.ref C) (.ref T) else none) = some b
    have e2 : ((PySem.W.clsIn K T).isSome && PySem.W.typeIn K (.ref T) == some (.type "type")) = true := by rw [hcd, ht] <;> rfl
    rw [if_pos e2]
    exact hs
theorem kit_typ {K : PySem.W.Frag} {C : Addr} {T : String} {b : Bool} (hk : PySem.W.kitMeta T = true) (hs : PySem.W.subIn K (.ref C) (.type T) = some b) : PySem.W.kitOne K (.ref C) (.type T) = some b := by
  unfold PySem.W.kitOne
  have ne : (Value.ref C == Value.type T) = false := beq_eq_false_iff_ne.mpr fun z => nomatch z
  rw [ne, if_neg Bool.false_ne_true]
  show (if PySem.W.kitMeta T = true then PySem.W.subIn K (.ref C) (.type T) else none) = some b
  rw [if_pos hk]
  exact hs
end M
namespace M
open PySem PySem.Spec PyProof.Rows L2
/-! ### more of lists -/
noncomputable def lCat {α : Type} (xs ys : List α) : Res (List α) := clo (if xs.length + ys.length ≤ line then .ok (xs ++ ys) else .bad)
noncomputable def lRep {α : Type} (xs : List α) (n : Int) : Res (List α) := clo (if -(2 ^ 63) ≤ n ∧ n < 2 ^ 63 ∧ xs.length * n.toNat ≤ line then .ok (List.replicate n.toNat xs).flatten else .bad)
section
variable {K : PySem.W.Frag} {mg : Str → Option Value} {I I1 H I' H' : Hp} {σ σ' ρ : List (Option V)} {Γ Γ' Γ1 Θ : List Cell} {i j n : Nat} {v v0 v1 v2 v3 : V} {te tl ti : TE} {ta : TA} {tt : TT} {t u : TS} {dn db dc : L2.St → Hp → Prop} {dr : VK} {Q : VK}
variable {pn : Option V} {ω : Type} {P : ω → Prop} {X : Exn → Prop} {α β γ δ : Type}
theorem paired_rep {f : V → α → Prop} {vs : List V} {xs : List α} (p : Paired f vs xs) : ∀ n : Nat, Paired f (List.replicate n vs).flatten (List.replicate n xs).flatten
  | 0 => by simp; exact .nil
  | n + 1 => by
    rw [List.replicate_succ, List.replicate_succ, List.flatten_cons, List.flatten_cons]
    exact paired_app p (paired_rep p n)
theorem cat_of [Rep α] {xs ys : List α} {k : List α → Res ω} (E : Env K I H σ Γ (some v2 :: some v1 :: ρ) (.im ys :: .im xs :: Θ)) (h : wp ((lCat xs ys).bind k) P X)
    (next : ∀ vs, Env K I H σ Γ ρ Θ → Paired (fun v x => Rep.rp K I v x) vs (xs ++ ys) → wp (k (xs ++ ys)) P X → ∀ p, H p = none → Q (.ref p) (upd H p (.lst vs))) : OpG rCat v1 v2 H Q := by
  obtain ⟨b, ws, rfl, hb, q⟩ := E.topR
  obtain ⟨a, vs, rfl, ha, p⟩ := E.pop.topR
  have l1 : vs.length = xs.length := Paired.length p
  have l2 : ws.length = ys.length := Paired.length q
  unfold lCat at h
  rw [clo_eq] at h
  split at h
  · rename_i hz
    exact ⟨a, b, vs, ws, rfl, rfl, E.same _ _ ha, E.same _ _ hb, by rw [l1, l2, ← line_eq]; exact hz, next _ E.pop.pop (paired_app p q) h⟩
  · exact h.elim
theorem st_catI [Rep α] {xs ys : List α} {k : List α → Res ω} (E : Env K I H σ Γ (some v2 :: some v1 :: ρ) (.im ys :: .im xs :: Θ)) (h : wp ((lCat xs ys).bind k) P X)
    (next : ∀ zs I' H' v, Env K I' H' σ Γ (some v :: ρ) (.im zs :: Θ) → wp (k zs) P X → Q v H') : OpG rCat v1 v2 H Q :=
  cat_of E h fun vs E r h => st_newI E r fun I' H' v E => next _ I' H' v E h
theorem st_catO [Rep α] {xs ys : List α} {k : List α → Res ω} (E : Env K I H σ Γ (some v2 :: some v1 :: ρ) (.im ys :: .im xs :: Θ)) (h : wp ((lCat xs ys).bind k) P X)
    (next : ∀ zs H' v, Env K I H' σ Γ (some v :: ρ) (.own zs :: Θ) → wp (k zs) P X → Q v H') : OpG rCat v1 v2 H Q :=
  cat_of E h fun vs E r h => st_newO E r fun H' v E => next _ H' v E h
theorem rep_of [Rep α] {xs : List α} {m : Int} {k : List α → Res ω} (E : Env K I H σ Γ (some v2 :: some v1 :: ρ) (.im m :: .im xs :: Θ)) (h : wp ((lRep xs m).bind k) P X)
    (next : ∀ vs, Env K I H σ Γ ρ Θ → Paired (fun v x => Rep.rp K I v x) vs (List.replicate m.toNat xs).flatten → wp (k (List.replicate m.toNat xs).flatten) P X → ∀ p, H p = none → Q (.ref p) (upd H p (.lst vs))) : OpG rRep v1 v2 H Q := by
  obtain ⟨e2, _⟩ := E.topS
  subst e2
  obtain ⟨a, vs, rfl, ha, p⟩ := E.pop.topR
  have l1 : vs.length = xs.length := Paired.length p
  unfold lRep at h
  rw [clo_eq] at h
  split at h
  · rename_i hz
    exact ⟨a, m, vs, rfl, rfl, E.same _ _ ha, hz.1, hz.2.1, by rw [l1, ← line_eq]; exact hz.2.2, next _ E.pop.pop (paired_rep p _) h⟩
  · exact h.elim
theorem st_repI [Rep α] {xs : List α} {m : Int} {k : List α → Res ω} (E : Env K I H σ Γ (some v2 :: some v1 :: ρ) (.im m :: .im xs :: Θ)) (h : wp ((lRep xs m).bind k) P X)
    (next : ∀ zs I' H' v, Env K I' H' σ Γ (some v :: ρ) (.im zs :: Θ) → wp (k zs) P X → Q v H') : OpG rRep v1 v2 H Q :=
  rep_of E h fun vs E r h => st_newI E r fun I' H' v E => next _ I' H' v E h
theorem st_repO [Rep α] {xs : List α} {m : Int} {k : List α → Res ω} (E : Env K I H σ Γ (some v2 :: some v1 :: ρ) (.im m :: .im xs :: Θ)) (h : wp ((lRep xs m).bind k) P X)
    (next : ∀ zs H' v, Env K I H' σ Γ (some v :: ρ) (.own zs :: Θ) → wp (k zs) P X → Q v H') : OpG rRep v1 v2 H Q :=
  rep_of E h fun vs E r h => st_newO E r fun H' v E => next _ H' v E h
/-! list(xs), list(t), tuple(xs) -/
abbrev rListOf (K : PySem.W.Frag) : List V → Hp → VK → Prop := fun xs H Q => ∃ p ys, xs = [.ref p] ∧ (SqL K H p ys ∨ SqT K H p ys) ∧ ∀ l, H l = none → Q (.ref l) (upd H l (.lst ys))
theorem st_listI [Rep α] {xs : List α} (E : Env K I H σ Γ (some v :: ρ) (.im xs :: Θ)) (next : ∀ I' H' v, Env K I' H' σ Γ (some v :: ρ) (.im xs :: Θ) → Q v H') : CbG (rListOf K) [v] H Q := by
  obtain ⟨a, vs, rfl, ha, p⟩ := E.topR
  exact ⟨a, vs, rfl, .inl (SqL.of (E.same _ _ ha)), st_newI (Env.pop E) p next⟩
theorem st_listO [Rep α] {xs : List α} (E : Env K I H σ Γ (some v :: ρ) (.im xs :: Θ)) (next : ∀ H' v, Env K I H' σ Γ (some v :: ρ) (.own xs :: Θ) → Q v H') : CbG (rListOf K) [v] H Q := by
  obtain ⟨a, vs, rfl, ha, p⟩ := E.topR
  exact ⟨a, vs, rfl, .inl (SqL.of (E.same _ _ ha)), st_newO (Env.pop E) p next⟩
theorem st_listTI [Rep α] {xs : TupL α} (E : Env K I H σ Γ (some v :: ρ) (.im xs :: Θ)) (next : ∀ I' H' v, Env K I' H' σ Γ (some v :: ρ) (.im xs.l :: Θ) → Q v H') : CbG (rListOf K) [v] H Q := by
  obtain ⟨a, vs, rfl, ha, p⟩ := E.topR
  exact ⟨a, vs, rfl, .inr (same_seqT E.same ha), st_newI (Env.pop E) p next⟩
theorem st_listTO [Rep α] {xs : TupL α} (E : Env K I H σ Γ (some v :: ρ) (.im xs :: Θ)) (next : ∀ H' v, Env K I H' σ Γ (some v :: ρ) (.own xs.l :: Θ) → Q v H') : CbG (rListOf K) [v] H Q := by
  obtain ⟨a, vs, rfl, ha, p⟩ := E.topR
  exact ⟨a, vs, rfl, .inr (same_seqT E.same ha), st_newO (Env.pop E) p next⟩
/-- xs.reverse() -/
theorem st_rev [Rep α] {xs : List α} {l : Addr} (E : Env K I H σ Γ ρ Θ) (hl : σ[i]? = some (some (.ref l))) (hΓ : Γ[i]? = some (.own xs pn)) (next : ∀ H', Env K I H' σ (Γ.set i (.own xs.reverse pn)) ρ Θ → Q .non H') : rReverse (.ref l) [] H Q := by
  obtain ⟨p, vs, hs, hp, _, q, ch, _⟩ := E.ownAt hΓ
  have e : l = p := by
    rw [hl] at hs
    exact V.ref.inj (Option.some.inj (Option.some.inj hs))
  subst e
  have rv : ∀ {vs : List V} {xs : List α}, Paired (fun v x => Rep.rp K I v x) vs xs → Paired (fun v x => Rep.rp K I v x) vs.reverse xs.reverse := fun {vs xs} p => by
    induction p with
    | nil => exact .nil
    | cons r t ih =>
      rw [List.reverse_cons, List.reverse_cons]
      exact paired_app ih (.cons r .nil)
  exact ⟨l, vs, rfl, rfl, hp, next _ (ch (Grow.refl E.same) _ _ (rv q))⟩
end
end M
namespace M
open PySem PySem.Spec PyProof.Rows L2
/-! ### while: fuel tells how many turns at most -/
noncomputable def fuel : Nat := clo 100000
def whileR {ρ S : Type} (c : S → Res Bool) (f : S → Res (Fl ρ S)) : Nat → S → Res (Lp ρ S)
  | 0, _ => .bad
  | n + 1, s => (c s).bind fun b => if b = true then (f s).bind fun y => (match y with
    | .nx s' => whileR c f n s'
    | .bk s' => .ok (.fin s')
    | .rt r => .ok (.ret r)) else .ok (.fin s)
theorem whileR_succ {ρ S : Type} {c : S → Res Bool} {f : S → Res (Fl ρ S)} {n : Nat} {s : S} : whileR c f (n + 1) s = (c s).bind fun b => if b = true then (f s).bind fun y => (match y with
    | .nx s' => whileR c f n s'
    | .bk s' => .ok (.fin s')
    | .rt r => .ok (.ret r)) else .ok (.fin s) := rfl
section
variable {K : PySem.W.Frag} {mg : Str → Option Value} {I I1 H I' H' : Hp} {σ σ' ρ : List (Option V)} {Γ Γ' Γ1 Θ : List Cell} {tt : TT} {tb : TS} {dn db dc : L2.St → Hp → Prop} {dr : VK}
variable {ω : Type} {P : ω → Prop} {X : Exn → Prop}
/-- a while; s: the data at the head -/
theorem st_while {ρτ S : Type} {c : S → Res Bool} {f : S → Res (Fl ρτ S)} {k : Lp ρτ S → Res ω} {s0 : S} {n : Nat} (R : ρτ → Prop) (G : S → List Cell)
    (E : Env K I H σ Γ ρ Θ) (w : Wk Γ (G s0)) (h : wp ((whileR c f n s0).bind k) P X) (ret : ∀ r, wp (k (.ret r)) P X → R r)
    (test : ∀ s I' H' σ' (Q : Bool → Hp → Prop), Env K I' H' σ' (G s) ρ Θ → wp (c s) (fun b => ∀ I'' H'', Env K I'' H'' σ' (G s) ρ Θ → Q b H'') X → tt σ' H' Q)
    (turn : ∀ s I' H' σ' (N B : L2.St → Hp → Prop), Env K I' H' σ' (G s) ρ Θ → wp (f s) (TurnP K G ρ Θ N B R) X → tb ⟨N, dr, B, N⟩ σ' H')
    (rest : ∀ s I' H' σ', Env K I' H' σ' (G s) ρ Θ → wp (k (.fin s)) P X → dn σ' H') : tWhile tt tb ⟨dn, dr, db, dc⟩ σ H := by
  refine ⟨fun m σ' H' => ∃ s I', Env K I' H' σ' (G s) ρ Θ ∧ wp ((whileR c f m s).bind k) P X, ⟨n, s0, I, E.weak w, h⟩, ?_⟩
  rintro m σ' H' ⟨s, I', E', h'⟩
  cases m with
  | zero => exact h'.elim
  | succ m =>
    rw [whileR_succ, Res.bind_assoc] at h'
    refine test s I' H' σ' _ E' (wpb h' fun b h2 I2 H2 E2 => ?_)
    cases b with
    | false => exact rest s I2 H2 σ' E2 h2
    | true =>
      rw [if_pos rfl, Res.bind_assoc] at h2
      refine ⟨fun σ3 H3 => ∃ s I', Env K I' H3 σ3 (G s) ρ Θ ∧ wp ((whileR c f m s).bind k) P X, fun σ3 H3 z => ⟨m, by omega, z⟩, ?_⟩
      refine turn s I2 H2 σ' _ _ E2 (wpb h2 fun y q => ?_)
      cases y with
      | nx s' => exact fun I3 H3 σ3 E3 => ⟨s', I3, E3, q⟩
      | bk s' => exact fun I3 H3 σ3 E3 => rest s' I3 H3 σ3 E3 q
      | rt r => exact ret r q
end
/-- list(range(b)) -/
instance rgDec (b : Int) : Decidable (L2.RgOk 0 b) := by unfold L2.RgOk; exact inferInstance
noncomputable def rngL (b : Int) : Res (List Int) := clo (if L2.RgOk 0 b then .ok (rng 0 b) else .bad)
section
variable {K : PySem.W.Frag} {mg : Str → Option Value} {I I1 H I' H' : Hp} {σ σ' ρ : List (Option V)} {Γ Γ' Γ1 Θ : List Cell} {i j : Nat} {te : TE} {dn db dc : L2.St → Hp → Prop} {dr : VK} {Q : VK} {pn : Option V} {v : V}
variable {ω : Type} {P : ω → Prop} {X : Exn → Prop} {α : Type}
/-- a = b = e -/
theorem st_set2 [Sca α] {m : Res α} {k : α → Res ω} (E : Env K I H σ Γ ρ Θ) (ht : HF K te Γ m) (h : wp (m.bind k) P X) (hi : i < Γ.length) (hj : j < Γ.length)
    (next : ∀ x σ', Env K I H σ' ((Γ.set i (.im x)).set j (.im x)) ρ Θ → wp (k x) P X → dn σ' H) : tAsg2 te (gName i) (gName j) ⟨dn, dr, db, dc⟩ σ H :=
  ht.run X _ E (wpb h fun x h ok => next x _ ((E.setS ok hi rfl).setS ok (by simpa using hj) rfl) h)
/-- sum(xs) of whole numbers -/
theorem hf_sum_of {xs : List Int} (hv : ∀ {I H : Hp} {σ ρ : List (Option V)} {Θ : List Cell}, Env K I H σ Γ ρ Θ → ∃ a vs, σ[j]? = some (some (.ref a)) ∧ H a = some (.lst vs) ∧ Paired (fun v x => Rep.rp K I v x) vs xs) : HF K (tCB (rSum K) (tCons (tVar j) tNil)) Γ (.ok xs.sum) := .mk fun X Q E q => by
  obtain ⟨a, vs, hs, ha, p⟩ := hv E
  exact ⟨_, hs, a, xs, rfl, by rw [← ints_of p]; exact SqL.of ha, q trivial⟩
theorem hf_sumL {xs : List Int} (hΓ : Γ[j]? = some (.im xs)) : HF K (tCB (rSum K) (tCons (tVar j) tNil)) Γ (.ok xs.sum) := hf_sum_of fun E => E.listAt hΓ
theorem hf_sumO {xs : List Int} (hΓ : Γ[j]? = some (.own xs pn)) : HF K (tCB (rSum K) (tCons (tVar j) tNil)) Γ (.ok xs.sum) := hf_sum_of fun E => E.ownAt' hΓ
/-- list(range(n)) -/
theorem rgV_rng (a b : Int) : rgV a b = (rng a b).map V.int := by
  unfold rgV rng
  rw [List.map_map]
  rfl
theorem lstRg_of {m : Res Int} {k : List Int → Res ω} (E : Env K I H σ Γ ρ Θ) (ht : HF K te Γ m) (h : wp (m.bind fun b => (rngL b).bind k) P X)
    (next : ∀ b : Int, wp (k (rng 0 b)) P X → ∀ p, H p = none → Q (.ref p) (upd H p (.lst ((rng 0 b).map V.int)))) : tLstRg (tRg1 te) σ H Q :=
  ht.run X _ E (wpb h fun b h _ => by
    unfold rngL at h
    rw [clo_eq] at h
    by_cases hr : L2.RgOk 0 b
    · rw [if_pos hr] at h
      exact ⟨b, rfl, hr, by rw [rgV_rng]; exact next b h⟩
    · rw [if_neg hr] at h
      exact h.elim)
theorem st_lstRgI {m : Res Int} {k : List Int → Res ω} (E : Env K I H σ Γ ρ Θ) (ht : HF K te Γ m) (h : wp (m.bind fun b => (rngL b).bind k) P X) (next : ∀ xs I' H' v, Env K I' H' σ Γ (some v :: ρ) (.im xs :: Θ) → wp (k xs) P X → Q v H') : tLstRg (tRg1 te) σ H Q :=
  lstRg_of E ht h fun b h => st_newI E (ints_paired _) fun I' H' v E => next _ I' H' v E h
theorem st_lstRgO {m : Res Int} {k : List Int → Res ω} (E : Env K I H σ Γ ρ Θ) (ht : HF K te Γ m) (h : wp (m.bind fun b => (rngL b).bind k) P X) (next : ∀ xs H' v, Env K I H' σ Γ (some v :: ρ) (.own xs :: Θ) → wp (k xs) P X → Q v H') : tLstRg (tRg1 te) σ H Q :=
  lstRg_of E ht h fun b h => st_newO E (ints_paired _) fun H' v E => next _ H' v E h
/-- xs[i], xs owned, its items of any kind -/
theorem st_ixAt [Rep α] {xs : List α} {ti : TE} {m : Res Int} {k : α → Res ω} (hv : ∃ a vs, σ[j]? = some (some (.ref a)) ∧ H a = some (.lst vs) ∧ Paired (fun v x => Rep.rp K I v x) vs xs) (E : Env K I H σ Γ ρ Θ) (hi : HF K ti Γ m) (h : wp (m.bind fun i => (lGet xs i).bind k) P X)
    (next : ∀ x v, Env K I H σ Γ (some v :: ρ) (.im x :: Θ) → wp (k x) P X → Q v H) : tOp (rIxL K) (tVar j) ti σ H Q := by
  obtain ⟨a, vs, hs, ha, p⟩ := hv
  refine ⟨_, hs, hi.run X _ E (wpb h fun i h _ => ?_)⟩
  unfold lGet at h
  cases e : atI xs i with
  | none => rw [e] at h; exact h.elim
  | some x =>
    rw [e] at h
    obtain ⟨w, e2, r⟩ := atI_paired p e
    exact ⟨a, vs, i, w, rfl, rfl, SqL.of ha, e2, next x w (E.push r) h⟩
theorem st_ixOwn [Rep α] {xs : List α} {ti : TE} {m : Res Int} {k : α → Res ω} (E : Env K I H σ Γ ρ Θ) (hΓ : Γ[j]? = some (.own xs pn)) (hi : HF K ti Γ m) (h : wp (m.bind fun i => (lGet xs i).bind k) P X)
    (next : ∀ x v, Env K I H σ Γ (some v :: ρ) (.im x :: Θ) → wp (k x) P X → Q v H) : tOp (rIxL K) (tVar j) ti σ H Q := st_ixAt (E.ownAt' hΓ) E hi h next
def RevG (K : PySem.W.Frag) (x : V) (H1 : Hp) (Q : VK) : Prop := ∃ a xs, x = .ref a ∧ SqL K H1 a xs ∧ ∀ p, H1 p = none → Q (.ref p) (upd H1 p (.lst xs.reverse))
theorem uRevL (h : te σ H fun x H1 => RevG K x H1 Q) : tRevL K te σ H Q := h
theorem paired_rev {f : V → α → Prop} {vs : List V} {xs : List α} (p : Paired f vs xs) : Paired f vs.reverse xs.reverse := by
  induction p with
  | nil => exact .nil
  | cons r t ih =>
    rw [List.reverse_cons, List.reverse_cons]
    exact paired_app ih (.cons r .nil)
theorem st_revLI [Rep α] {xs : List α} (E : Env K I H σ Γ (some v :: ρ) (.im xs :: Θ)) (next : ∀ I' H' v, Env K I' H' σ Γ (some v :: ρ) (.im xs.reverse :: Θ) → Q v H') : RevG K v H Q := by
  obtain ⟨a, vs, rfl, ha, p⟩ := E.topR
  exact ⟨a, vs, rfl, SqL.of (E.same _ _ ha), st_newI (Env.pop E) (paired_rev p) next⟩
theorem st_revLO [Rep α] {xs : List α} (E : Env K I H σ Γ (some v :: ρ) (.im xs :: Θ)) (next : ∀ H' v, Env K I H' σ Γ (some v :: ρ) (.own xs.reverse :: Θ) → Q v H') : RevG K v H Q := by
  obtain ⟨a, vs, rfl, ha, p⟩ := E.topR
  exact ⟨a, vs, rfl, SqL.of (E.same _ _ ha), st_newO (Env.pop E) (paired_rev p) next⟩
end
/-- a call without arguments, what is raised wished for at the caller's slots -/
theorem pe_callS0 {X : Cx} {CX : CXT} {k : Nat} {f : Addr} {fd : FuncData} {ps : List Str} {sp : Sp} {E : L2.St → XK} {x : Str} {p pos : Pos} (F : FnOk X.prog X.w X.K X.mg X.base CX k f fd ps sp) (hr : Room k X.A) (hg : Gl X x) (hm : X.mg x = some (.ref f))
    (hk : PySem.W.keepIn X.K (.ref f) = true) (hb : Binds X.K fd ps []) (hx : ∀ σ, PassesAt CX X σ (E σ)) (hdb : (x == ("__debug__" : Str)) = false := by decide) : PE X (.Call (.Name x p) [] [] pos) (tCallS sp E tNil) := .mk fun pins s σ H Q I h =>
  wpAny_Call_Name_kw (ld_glob I hg hm (PySem.W.callWith_K0 I.kIn hk (run_fnS (us := []) F hr hb (hx σ) I .nil h)) hdb)
end M
/-! ### sorted of tuples of whole numbers -/
namespace SrtM
open PySem PySem.W PySem.Calls PyProof.Rows SrtO
def IsTupI (h : Heap) (v : Value) (ns : List Int) : Prop := ∃ a o xs n, v = .ref a ∧ h.get? a = some o ∧ o.cls = .type "tuple" ∧ o.data = .seq xs n ∧ IntsAre xs.toList ns
theorem IsTupI.keeps {h h' : Heap} {v : Value} {ns : List Int} (p : IsTupI h v ns) (k : ∀ b o, h.get? b = some o → o.cls = .type "tuple" → h'.get? b = some o) : IsTupI h' v ns := by
  obtain ⟨a, o, xs, n, e, ho, hc, hd, i⟩ := p
  exact ⟨a, o, xs, n, e, k _ _ ho hc, hc, hd, i⟩
section
variable {prog : Program} {w : World} {A : Around} {E : Value → Shared → Prop} {s : Shared}
theorem lexI {b fin : Bool} {Q : Bool → Shared → Prop} {xs ys : List Value} {ns ms : List Int} (i : Nat) (hx : IntsAre xs ns) (hy : IntsAre ys ms) (hf : fin = decide (ns.length < ms.length)) (h : Q (HT.lexLt ns ms) s) : KatLex prog w A b fin Q (xs.zip ys) i s := by
  induction hx generalizing ys ms i with
  | nil =>
    rw [List.zip_nil_left]
    cases hy with
    | nil => rw [hf]; exact kat_nil h
    | cons q u hy => rw [hf]; exact kat_nil h
  | @cons p t xs ns hx ih =>
    cases hy with
    | nil =>
      rw [List.zip_nil_right, hf]
      have e : decide ((p :: ns).length < ([] : List Int).length) = false := decide_eq_false (by simp)
      rw [e]
      exact kat_nil h
    | @cons q u ys ms hy =>
      rw [List.zip_cons_cons]
      refine kat_cons (SeqAt.EqAt.int_int p t q u prog w _ _ ?_)
      have hf' : fin = decide (ns.length < ms.length) := by rw [hf]; simp
      rw [HT.lexLt_cons] at h
      refine kat_go (fun e1 => ?_) (fun e1 => ?_)
      · have ex : p = q := by simpa using e1
        rw [if_pos ex] at h
        exact kat_yes (ih (i + 1) hy hf' h)
      · have ex : ¬ p = q := by simpa using e1
        rw [if_neg ex] at h
        exact kat_no (by
          generalize (b && i == 0) = c
          cases c with
          | true => exact oneLt_int h
          | false => exact kat_one _ _ (PyProof.Rows.lt_int (Q := PySem.W.BoolBack Q) h))
theorem tup_cmp {vs : List Value} {k : Value → List Int} (hp : ∀ v ∈ vs, IsTupI s.heap v (k v)) : Cmp prog w A s (tuples' true) (fun p => p.1 ∈ vs) (lt2 fun v u => HT.lexLt (k v) (k u)) := by
  intro p q hm hm'
  have h1 := hp _ hm
  have h2 := hp _ hm'
  show wpAny (model prog w) A (keyLt' (tuples' true) p.1 q.1) (fun r s' => s' = s ∧ r = HT.lexLt (k p.1) (k q.1)) (fun _ _ => False) s
  generalize k p.1 = x at h1 ⊢
  generalize k q.1 = y at h2 ⊢
  obtain ⟨a, o, xs, n, e, ho, hc, hd, i⟩ := h1
  obtain ⟨a', o', xs', n', e', ho', hc', hd', i'⟩ := h2
  rw [e, e']
  refine kat_lt ho hd ho' hd' ?_
  refine lexI 0 i i' ?_ ⟨rfl, rfl⟩
  have e1 := i.length
  have e2 := i'.length
  rw [Array.length_toList] at e1 e2
  rw [e1, e2]
theorem firsts {h : Heap} {k : Value → List Int} : ∀ {vs : List Value}, (∀ v ∈ vs, IsTupI h v (k v) ∧ k v ≠ []) → ∃ fs : List Value, KatTups h vs fs ∧ fs.length = vs.length ∧ ∀ f ∈ fs, ∃ x t, f = Value.int x t
  | [], _ => ⟨[], KatTups.nil, rfl, fun _ hm => by simp at hm⟩
  | v :: vs, hp => by
    obtain ⟨fs, h1, h2, h3⟩ := firsts (vs := vs) fun v' hm => hp v' (List.mem_cons_of_mem _ hm)
    obtain ⟨⟨a, o, xs, n, e0, ho, hc, hd, i⟩, hne⟩ := hp v List.mem_cons_self
    subst e0
    obtain ⟨y, ys, e⟩ : ∃ y ys, xs.toList = y :: ys := by
      cases q : xs.toList with
      | nil =>
        rw [q] at i
        generalize k (.ref a) = kk at i hne
        cases i
        exact absurd rfl hne
      | cons y ys => exact ⟨y, ys, rfl⟩
    obtain ⟨m, t, hy⟩ := i.all y (by rw [e]; exact List.mem_cons_self ..)
    refine ⟨y :: fs, KatTups.cons ho hc hd ?_ h1, by simp [h2], ?_⟩
    · have z := congrArg (fun l : List Value => l[0]?) e
      simpa using z
    · intro f hf
      rcases List.mem_cons.mp hf with rfl | hf
      · exact ⟨m, t, hy⟩
      · exact h3 f hf
theorem tups_sortable {a : Addr} {vs : List Value} {k : Value → List Int} (h0 : 0 < vs.length) (hp : ∀ v ∈ vs, IsTupI s.heap v (k v) ∧ k v ≠ []) (ha : ∀ o, s.heap.get? a = some o → o.cls ≠ .type "tuple") : SortableO prog w A s a vs fun v u => HT.lexLt (k v) (k u) := by
  intro h' keep
  have hp' : ∀ v ∈ vs, IsTupI h' v (k v) ∧ k v ≠ [] := fun v hm => ⟨(hp v hm).1.keeps fun b o e c => keep b o (fun z => by subst z; exact ha o e c) e, (hp v hm).2⟩
  obtain ⟨fs, h1, h2, h3⟩ := firsts hp'
  refine ⟨tuples' true, fun Q E hq => ?_, tup_cmp fun v hm => (hp' v hm).1⟩
  refine kat_kind (T := .type "int") h1 (by omega) (fun f hm => ?_) (by rfl) ?_
  · obtain ⟨x, t, rfl⟩ := h3 f hm
    exact Looks.now
  · have e : (Value.type "int" != Value.type "tuple") = true := by first | decide +kernel | rfl | decide
    rw [e]
    exact hq
theorem sorted_tups {l : Addr} {vs : List Value} {k : Value → List Int} {Q : Value → Shared → Prop} (hl : s.heap.IsList l vs.toArray) (hz : vs.length ≤ sizeLine) (hp : ∀ v ∈ vs, IsTupI s.heap v (k v) ∧ k v ≠ [])
    (h : ∀ (h' : Heap) (d : Addr) (out : List Value), Srtd (fun v u => HT.lexLt (k v) (k u)) out → Stb (fun v u => HT.lexLt (k v) (k u)) out vs → (∀ b o, s.heap.get? b = some o → h'.get? b = some o) → s.heap.objs.size ≤ d → (∃ n, h'.get? d = some (seqObj "list" out.toArray n)) → Q (.ref d) { s with heap := h' }) :
    wpAny (model prog w) A (call (.builtin "sorted") [.ref l]) Q E s := by
  refine sorted_ord (NtL.swo_lexL k) hl hz (fun h2 h₁ a ha kk => ?_) fun out hs hb => ?_
  · refine tups_sortable (s := { s with heap := h₁ }) (by omega) (fun v hm => ⟨(hp v hm).1.keeps fun b o e _ => (kk b o e).2, (hp v hm).2⟩) fun o e => ?_
    have e' : some o = some (seqObj "list" vs.toArray 0) := e.symm.trans ha
    cases e'
    intro c
    exact absurd (Value.type.inj c) (by decide)
  · exact h _ _ out hs hb (fun b o e => sortedAll_old e) (Nat.le_succ _) (sortedAll_at s.heap vs out.toArray)
end
end SrtM
namespace M
open PySem PySem.Spec PyProof.Rows L2
/-! ### sorted of a list of tuples of whole numbers -/
theorem lex_anti : ∀ {a b : List Int}, HT.lexLt a b = false → HT.lexLt b a = false → a = b
  | [], [], _, _ => rfl
  | [], y :: ys, h, _ => by rw [HT.lexLt_nil_cons] at h; cases h
  | x :: xs, [], _, h => by rw [HT.lexLt_nil_cons] at h; cases h
  | x :: xs, y :: ys, h1, h2 => by
    rw [HT.lexLt_cons] at h1 h2
    by_cases e : x = y
    · subst e
      rw [if_pos rfl] at h1 h2
      rw [lex_anti h1 h2]
    · rw [if_neg e] at h1
      rw [if_neg fun q => e q.symm] at h2
      have a := of_decide_eq_false h1
      have b := of_decide_eq_false h2
      omega
def sortL (xs : List (List Int)) : List (List Int) := xs.mergeSort fun a b => !HT.lexLt b a
theorem sortL_perm (xs : List (List Int)) : (sortL xs).Perm xs := List.mergeSort_perm _ _
theorem sortL_ord (xs : List (List Int)) : (sortL xs).Pairwise fun a b => HT.lexLt b a = false := by
  have := List.pairwise_mergeSort (le := fun a b => !HT.lexLt b a) (fun a b c h1 h2 => by
    have h1 : HT.lexLt b a = false := by simpa using h1
    have h2 : HT.lexLt c b = false := by simpa using h2
    simpa using NtL.lex_tr _ _ _ h1 h2) (fun a b => by
    cases e : HT.lexLt a b with
    | false => simp
    | true => rw [NtL.lex_asym _ _ e]; rfl) xs
  exact this.imp fun h => by simpa using h
theorem sortL_uniq {xs ys : List (List Int)} (p : ys.Perm xs) (h : ys.Pairwise fun a b => HT.lexLt b a = false) : ys = sortL xs :=
  List.Perm.eq_of_pairwise (fun _ _ _ _ h1 h2 => lex_anti h2 h1) h (sortL_ord xs) (p.trans (sortL_perm xs).symm)
/-- a tuple of whole numbers -/
def TInt (K : PySem.W.Frag) (H : Hp) (v : V) (ns : List Int) : Prop := ∃ t, v = .ref t ∧ SqT K H t (ns.map V.int)
def rSortTL (K : PySem.W.Frag) : List V → Hp → VK → Prop := fun vs H Q => ∃ (a : Addr) (xs : List V) (nss : List (List Int)) (R : V → List Int → Prop), vs = [V.ref a] ∧ SqL K H a xs ∧ (∀ v ns, R v ns → TInt K H v ns) ∧ Paired R xs nss ∧ (∀ ns ∈ nss, ns ≠ []) ∧
  ∀ ys p, Paired R ys (sortL nss) → H p = none → Q (.ref p) (upd H p (.lst ys))
theorem paired_mem {α β : Type} {R : α → β → Prop} : ∀ {xs : List α} {ys : List β}, Paired R xs ys → ∀ x ∈ xs, ∃ y ∈ ys, R x y
  | _, _, .nil, x, h => by simp at h
  | _, _, .cons r t, x, h => by
    rcases List.mem_cons.mp h with e | e
    · subst e; exact ⟨_, List.mem_cons_self, r⟩
    · obtain ⟨y, hy, q⟩ := paired_mem t x e
      exact ⟨y, List.mem_cons_of_mem _ hy, q⟩
theorem paired_map_eq {α β : Type} {R : α → β → Prop} {k : α → β} (u : ∀ x y, R x y → k x = y) : ∀ {xs : List α} {ys : List β}, Paired R xs ys → xs.map k = ys
  | _, _, .nil => rfl
  | _, _, .cons r t => by rw [List.map_cons, u _ _ r, paired_map_eq u t]
theorem paired_self {α β : Type} {R : α → β → Prop} {k : α → β} : ∀ {xs : List α}, (∀ x ∈ xs, R x (k x)) → Paired R xs (xs.map k)
  | [], _ => .nil
  | x :: xs, h => .cons (h x List.mem_cons_self) (paired_self fun y hy => h y (List.mem_cons_of_mem _ hy))
theorem map_int_inj {a b : List Int} (h : a.map V.int = b.map V.int) : a = b := by
  induction a generalizing b with
  | nil =>
    cases b with
    | nil => rfl
    | cons y ys => cases h
  | cons x xs ih =>
    cases b with
    | nil => cases h
    | cons y ys =>
      rw [List.map_cons, List.map_cons] at h
      obtain ⟨h1, h2⟩ := List.cons.inj h
      rw [V.int.inj h1, ih h2]
theorem cr_sortTL {X : Cx} : CallR X (.builtin "sorted") (rSortTL X.K) := by
  intro pins s σ H vs us Q I r h
  obtain ⟨a, xs, nss, R, rfl, hs, hR, hp, hne, q⟩ := h
  obtain ⟨its, rv, hl, hz⟩ := I.list hs
  obtain ⟨u, rfl, ru⟩ := vals1 r
  obtain rfl : u = Value.ref a := ru
  let k : V → List Int := fun v => @dite _ (∃ ns, TInt X.K H v ns) (Classical.propDecidable _) (fun h => Classical.choose h) (fun _ => [])
  have uk : ∀ v ns, R v ns → k v = ns := fun v ns h => by
    have ex : ∃ ns, TInt X.K H v ns := ⟨ns, hR v ns h⟩
    have e : k v = Classical.choose ex := dif_pos ex
    rw [e]
    obtain ⟨t, e1, q1⟩ := Classical.choose_spec ex
    obtain ⟨t', e2, q2⟩ := hR v ns h
    rw [e1] at e2
    cases e2
    exact map_int_inj (I.tuple_inj q1 q2)
  have hk : ∀ v ∈ xs, R v (k v) ∧ k v ≠ [] := fun v hv => by
    obtain ⟨ns, hn, r⟩ := paired_mem hp v hv
    rw [uk v ns r]
    exact ⟨r, hne ns hn⟩
  obtain ⟨e1, e2⟩ := refs_back rv fun x m => by
    obtain ⟨t, e, _⟩ := hR _ _ (hk x m).1
    exact ⟨t, e⟩
  refine SrtM.sorted_tups (k := fun u => k (backV u)) hl.isList (by rw [← rv.length]; exact hz) (fun v hv => ?_) fun h' d out h1 h2 kp hd hn => ?_
  · obtain ⟨t, rfl⟩ := e2 v hv
    have hm : V.ref t ∈ xs := by rw [e1]; exact List.mem_map.mpr ⟨_, hv, rfl⟩
    obtain ⟨t', e, ht⟩ := hR _ _ (hk _ hm).1
    cases e
    obtain ⟨its', r1, ⟨o, ho, hc, n, hd⟩, _⟩ := I.tuple ht
    exact ⟨⟨t, o, _, n, rfl, ho, hc, hd, intsAre_of r1⟩, (hk _ hm).2⟩
  · have h3 : ∀ u ∈ out, ∃ a, u = Value.ref a := fun u hu => e2 u (h2.perm.mem_iff.mp hu)
    obtain ⟨n, hn⟩ := hn
    have hb : (out.map backV).Perm xs := by
      rw [e1]
      exact h2.perm.map backV
    have hs : ((out.map backV).map k).Pairwise fun a b => HT.lexLt b a = false := by
      rw [List.map_map, List.pairwise_map]
      exact h1
    have e : (out.map backV).map k = sortL nss := sortL_uniq (by rw [← paired_map_eq uk hp]; exact hb.map k) hs
    refine ⟨.ref d, upd H d (.lst (out.map backV)), I.laid (t' := s.toks) kp hd ⟨?_, out, n, vals_back h3, hn⟩, rfl, q _ d ?_ (I.hok.fresh hd)⟩
    · rw [hb.length_eq]
      exact hz
    · rw [← e]
      exact paired_self fun v hv => (hk v (hb.mem_iff.mp hv)).1
/-- sorted(xs), xs a list of tuples of whole numbers, none of them empty -/
noncomputable def lSortT (xs : List (TupL Int)) : Res (List (TupL Int)) := clo (if (xs.all fun x => !x.l.isEmpty) = true then .ok ((sortL (xs.map TupL.l)).map TupL.mk) else .bad)
theorem paired_mapR {α β γ : Type} {R : α → β → Prop} {S : α → γ → Prop} {f : β → γ} (h : ∀ x y, R x y → S x (f y)) : ∀ {xs : List α} {ys : List β}, Paired R xs ys → Paired S xs (ys.map f)
  | _, _, .nil => .nil
  | _, _, .cons r t => .cons (h _ _ r) (paired_mapR h t)
theorem ints_rp {K : PySem.W.Frag} {I : Hp} : ∀ {vs : List V} {ns : List Int}, Paired (fun v x => Rep.rp K I v x) vs ns → vs = ns.map V.int
  | _, _, .nil => rfl
  | _, _, .cons r t => by rw [List.map_cons, ← ints_rp t]; rw [show _ = _ from r.1]; rfl
theorem rp_ints {K : PySem.W.Frag} {I : Hp} : ∀ (ns : List Int), Paired (fun v (x : Int) => Rep.rp K I v x) (ns.map V.int) ns
  | [] => .nil
  | n :: ns => .cons ⟨rfl, trivial⟩ (rp_ints ns)
section
variable {K : PySem.W.Frag} {I H : Hp} {σ ρ : List (Option V)} {Γ Γ' Θ : List Cell} {i j : Nat} {v : V} {pn : Option V} {te tl : TE} {Q : VK} {ω : Type} {P : ω → Prop} {X : Exn → Prop}
theorem sortT_of {a : Addr} {vs : List V} {xs : List (TupL Int)} {k : List (TupL Int) → Res ω} (e : I a = some (.lst vs) ∨ H a = some (.lst vs)) (s : Same I H) (p : Paired (fun v x => Rep.rp K I v x) vs xs) (h : wp ((lSortT xs).bind k) P X)
    (next : ∀ xs', wp (k xs') P X → ∀ ys p, Paired (fun v x => Rep.rp K I v x) ys xs' → H p = none → Q (.ref p) (upd H p (.lst ys))) : CbG (rSortTL K) [.ref a] H Q := by
  unfold lSortT at h
  rw [clo_eq] at h
  by_cases hne : (xs.all fun x => !x.l.isEmpty) = true
  · rw [if_pos hne] at h
    refine ⟨a, vs, xs.map TupL.l, fun v ns => Rep.rp K I v (TupL.mk ns), rfl, ?_, ?_, ?_, ?_, fun ys p hp np => ?_⟩
    · rcases e with e | e
      · exact SqL.of (s _ _ e)
      · exact SqL.of e
    · rintro v ns ⟨t, ws, e1, e2, e3⟩
      refine ⟨t, e1, ?_⟩
      rw [← ints_rp e3]
      exact same_seqT s e2
    · exact paired_mapR (f := TupL.l) (fun _ _ h => h) p
    · intro ns hn
      obtain ⟨x, hx, rfl⟩ := List.mem_map.mp hn
      have := List.all_eq_true.mp hne x hx
      intro z
      rw [z] at this
      cases this
    · exact next _ h ys p (paired_mapR (f := TupL.mk) (fun _ _ h => h) hp) np
  · rw [if_neg hne] at h
    exact h.elim
theorem st_sortTO {xs : List (TupL Int)} {k : List (TupL Int) → Res ω} (E : Env K I H σ Γ (some v :: ρ) (.im xs :: Θ)) (h : wp ((lSortT xs).bind k) P X) (next : ∀ xs' H' v, Env K I H' σ Γ (some v :: ρ) (.own xs' :: Θ) → wp (k xs') P X → Q v H') : CbG (rSortTL K) [v] H Q := by
  obtain ⟨a, vs, rfl, ha, p⟩ := E.topR
  exact sortT_of (.inl ha) E.same p h fun xs' h ys q hp np => st_newO (Env.pop E) hp (fun H' v E => next xs' H' v E h) q np
theorem st_sortTI {xs : List (TupL Int)} {k : List (TupL Int) → Res ω} (E : Env K I H σ Γ (some v :: ρ) (.im xs :: Θ)) (h : wp ((lSortT xs).bind k) P X) (next : ∀ xs' I' H' v, Env K I' H' σ Γ (some v :: ρ) (.im xs' :: Θ) → wp (k xs') P X → Q v H') : CbG (rSortTL K) [v] H Q := by
  obtain ⟨a, vs, rfl, ha, p⟩ := E.topR
  exact sortT_of (.inl ha) E.same p h fun xs' h ys q hp np => st_newI (Env.pop E) hp (fun I' H' v E => next xs' I' H' v E h) q np
/-! ### sorted of whole numbers -/
noncomputable def lSortI (xs : List Int) : Res (List Int) := .ok (xs.mergeSort fun a b => decide (a ≤ b))
theorem sortI_uniq {xs ys : List Int} (p : ys.Perm xs) (h : ys.Pairwise (· ≤ ·)) : ys = xs.mergeSort fun a b => decide (a ≤ b) := by
  have q := List.pairwise_mergeSort (le := fun a b : Int => decide (a ≤ b)) (fun a b c h1 h2 => by
    have h1 := of_decide_eq_true h1
    have h2 := of_decide_eq_true h2
    exact decide_eq_true (by omega)) (fun a b => by
    by_cases e : a ≤ b
    · rw [decide_eq_true e]; rfl
    · rw [decide_eq_false e, decide_eq_true (by omega : b ≤ a)]; rfl) xs
  exact List.Perm.eq_of_pairwise (le := (· ≤ ·)) (fun a b _ _ h1 h2 => by omega) h (q.imp fun h => of_decide_eq_true h) (p.trans (List.mergeSort_perm _ _).symm)
theorem st_sortIO {xs : List Int} {k : List Int → Res ω} (E : Env K I H σ Γ (some v :: ρ) (.im xs :: Θ)) (h : wp ((lSortI xs).bind k) P X) (next : ∀ xs' H' v, Env K I H' σ Γ (some v :: ρ) (.own xs' :: Θ) → wp (k xs') P X → Q v H') : CbG (rSortedI K) [v] H Q := by
  obtain ⟨a, vs, rfl, ha, p⟩ := E.topR
  refine ⟨a, xs, rfl, ?_, fun ns' q p1 p2 np => ?_⟩
  · rw [← ints_rp p]
    exact SqL.of (E.same _ _ ha)
  · rw [sortI_uniq p1 p2]
    exact st_newO (Env.pop E) (rp_ints _) (fun H' v E => next _ H' v E h) q np
theorem st_sortII {xs : List Int} {k : List Int → Res ω} (E : Env K I H σ Γ (some v :: ρ) (.im xs :: Θ)) (h : wp ((lSortI xs).bind k) P X) (next : ∀ xs' I' H' v, Env K I' H' σ Γ (some v :: ρ) (.im xs' :: Θ) → wp (k xs') P X → Q v H') : CbG (rSortedI K) [v] H Q := by
  obtain ⟨a, vs, rfl, ha, p⟩ := E.topR
  refine ⟨a, xs, rfl, ?_, fun ns' q p1 p2 np => ?_⟩
  · rw [← ints_rp p]
    exact SqL.of (E.same _ _ ha)
  · rw [sortI_uniq p1 p2]
    exact st_newI (Env.pop E) (rp_ints _) (fun I' H' v E => next _ I' H' v E h) q np
end
end M
namespace M
open PySem PySem.Spec PyProof.Rows L2
section
variable {K : PySem.W.Frag} {I H : Hp} {σ ρ : List (Option V)} {Γ Γ' Θ : List Cell} {i j : Nat} {v : V} {pn : Option V} {te tl : TE} {Q : VK} {ω : Type} {P : ω → Prop} {X : Exn → Prop}
/-! ### tuples: shown, taken apart -/
def TpG (vs : List V) (H : Hp) (Q : VK) : Prop := vs.length ≤ sizeLine ∧ ∀ p, H p = none → Q (.ref p) (upd H p (.tup vs))
theorem uTpl {t : TA} (h : t σ H fun xs H1 => TpG xs H1 Q) : tTup t σ H Q := h
theorem st_tupL {α : Type} [Rep α] (vs : List V) (xs : List α) (hl : vs.length = xs.length) (hz : vs.length ≤ line) (E : Env K I H σ Γ ((vs.map some).reverse ++ ρ) ((xs.map Cell.im).reverse ++ Θ))
    (next : ∀ I' H' v, Env K I' H' σ Γ (some v :: ρ) (.im (TupL.mk xs) :: Θ) → Q v H') : TpG vs H Q := by
  refine ⟨line_of hz, fun p hp => ?_⟩
  obtain ⟨pr, E2⟩ := E.collect hl
  exact next _ _ _ ((E2.grow (Grow.newI (u := .tup vs) E2.same hp)).push ⟨p, vs, rfl, .inl (.inl upd_same), Paired.monoR (fun _ _ z => Rep.mono (fun a o e => by rw [upd_ne (ne_of_none e (E2.2.2.none_of hp))]; exact e) z) pr⟩)
theorem st_tup2 {α β : Type} [Rep α] [Rep β] {x : α} {y : β} {v1 v2 : V} (E : Env K I H σ Γ (some v2 :: some v1 :: ρ) (.im y :: .im x :: Θ)) (next : ∀ I' H' v, Env K I' H' σ Γ (some v :: ρ) (.im (x, y) :: Θ) → Q v H') : TpG [v1, v2] H Q := by
  refine ⟨line_of (by decide : (2 : Nat) ≤ line), fun p hp => ?_⟩
  have r2 := E.topR
  have r1 := E.pop.topR
  have E2 := E.pop.pop
  have m : ∀ {γ : Type} [Rep γ] {v : V} {z : γ}, Rep.rp K I v z → Rep.rp K (upd I p (.tup [v1, v2])) v z := fun q => Rep.mono (fun a o e => by rw [upd_ne (ne_of_none e (E2.2.2.none_of hp))]; exact e) q
  exact next _ _ _ ((E2.grow (Grow.newI (u := .tup [v1, v2]) E2.same hp)).push ⟨p, v1, v2, rfl, .inl (.inl upd_same), m r1, m r2⟩)
end
end M
namespace M
open PySem PySem.Spec PyProof.Rows L2
section
variable {K : PySem.W.Frag} {I H : Hp} {σ ρ : List (Option V)} {Γ Γ' Θ : List Cell} {i j : Nat} {v : V} {pn : Option V} {te tl : TE} {Q : VK} {ω : Type} {P : ω → Prop} {X : Exn → Prop}
theorem uTupT {n : Nat} {t : TGs} {Q : L2.St → Hp → Prop} (h : ∃ a xs, v = .ref a ∧ SqT K H a xs ∧ xs.length = n ∧ t xs σ H Q) : gTup K n t v σ H Q := h
theorem uGC {t : TG} {u : TGs} {r : List V} {Q : L2.St → Hp → Prop} (h : t v σ H fun σ' H' => u r σ' H' Q) : gCons t u (v :: r) σ H Q := ⟨v, r, rfl, h⟩
theorem uGN {Q : L2.St → Hp → Prop} (h : Q σ H) : gNil [] σ H Q := ⟨rfl, h⟩
def unp2 {α : Type} (x : TupL α) : Res (α × α) := match x.l with | [a, b] => .ok (a, b) | _ => .bad
def unp3 {α : Type} (x : TupL α) : Res (α × α × α) := match x.l with | [a, b, c] => .ok (a, b, c) | _ => .bad
theorem st_unp2 {α : Type} [Rep α] {t : TGs} {x : TupL α} {k : α × α → Res ω} {Q : L2.St → Hp → Prop} (E : Env K I H σ Γ (some v :: ρ) (.im x :: Θ)) (h : wp ((unp2 x).bind k) P X)
    (next : ∀ a b va vb, Env K I H σ Γ (some va :: some vb :: ρ) (.im a :: .im b :: Θ) → wp (k (a, b)) P X → t [va, vb] σ H Q) : gTup K 2 t v σ H Q := by
  obtain ⟨p, vs, e, hq, pr⟩ := E.topR
  unfold unp2 at h
  obtain ⟨l⟩ := x
  dsimp only at pr h
  cases pr with
  | nil => exact h.elim
  | cons r1 pr =>
    cases pr with
    | nil => exact h.elim
    | cons r2 pr =>
      cases pr with
      | nil => exact ⟨p, _, e, same_seqT E.same hq, rfl, next _ _ _ _ ((E.pop.push r2).push r1) h⟩
      | cons r3 pr => exact h.elim
theorem st_unp3 {α : Type} [Rep α] {t : TGs} {x : TupL α} {k : α × α × α → Res ω} {Q : L2.St → Hp → Prop} (E : Env K I H σ Γ (some v :: ρ) (.im x :: Θ)) (h : wp ((unp3 x).bind k) P X)
    (next : ∀ a b c va vb vc, Env K I H σ Γ (some va :: some vb :: some vc :: ρ) (.im a :: .im b :: .im c :: Θ) → wp (k (a, b, c)) P X → t [va, vb, vc] σ H Q) : gTup K 3 t v σ H Q := by
  obtain ⟨p, vs, e, hq, pr⟩ := E.topR
  unfold unp3 at h
  obtain ⟨l⟩ := x
  dsimp only at pr h
  cases pr with
  | nil => exact h.elim
  | cons r1 pr =>
    cases pr with
    | nil => exact h.elim
    | cons r2 pr =>
      cases pr with
      | nil => exact h.elim
      | cons r3 pr =>
        cases pr with
        | nil => exact ⟨p, _, e, same_seqT E.same hq, rfl, next _ _ _ _ _ _ (((E.pop.push r3).push r2).push r1) h⟩
        | cons r4 pr => exact h.elim
theorem st_unpP {α β : Type} [Rep α] [Rep β] {t : TGs} {x : α × β} {Q : L2.St → Hp → Prop} (E : Env K I H σ Γ (some v :: ρ) (.im x :: Θ))
    (next : ∀ va vb, Env K I H σ Γ (some va :: some vb :: ρ) (.im x.1 :: .im x.2 :: Θ) → t [va, vb] σ H Q) : gTup K 2 t v σ H Q := by
  obtain ⟨p, v1, v2, e, hq, r1, r2⟩ := E.topR
  exact ⟨p, _, e, same_seqT E.same hq, rfl, next _ _ ((E.pop.push r2).push r1)⟩
end
end M
namespace M
open PySem PySem.Spec PyProof.Rows L2
section
variable {K : PySem.W.Frag} {I H : Hp} {σ ρ : List (Option V)} {Γ Γ' Θ : List Cell} {i j : Nat} {v : V} {pn : Option V} {te tl : TE} {Q : VK} {ω : Type} {P : ω → Prop} {X : Exn → Prop}
/-- t[i], both on the stack -/
theorem st_ixTup {α : Type} [Rep α] {v1 v2 : V} {x : TupL α} {i : Int} {k : α → Res ω} (E : Env K I H σ Γ (some v2 :: some v1 :: ρ) (.im i :: .im x :: Θ)) (h : wp ((lGet x.l i).bind k) P X)
    (next : ∀ y v, Env K I H σ Γ (some v :: ρ) (.im y :: Θ) → wp (k y) P X → Q v H) : OpG (rIxT K) v1 v2 H Q := by
  obtain ⟨e2, _⟩ := E.topS
  subst e2
  obtain ⟨a, vs, e, ha, p⟩ := E.pop.topR
  subst e
  unfold lGet at h
  cases e : atI x.l i with
  | none => rw [e] at h; exact h.elim
  | some y =>
    rw [e] at h
    obtain ⟨w, e2, r⟩ := atI_paired p e
    exact ⟨a, vs, i, w, rfl, rfl, same_seqT E.same ha, e2, next y w (E.pop.pop.push r) h⟩
theorem st_lenTup {α : Type} [Rep α] {x : TupL α} (E : Env K I H σ Γ (some v :: ρ) (.im x :: Θ)) (next : ∀ v, Env K I H σ Γ (some v :: ρ) (.im ((x.l.length : Nat) : Int) :: Θ) → Q v H) : CbG (rLen2 K) [v] H Q := by
  obtain ⟨a, vs, e, ha, p⟩ := E.topR
  subst e
  have hl : vs.length = x.l.length := Paired.length p
  exact ⟨a, vs, rfl, .inr (same_seqT E.same ha), next _ (E.pop.pushS (a := ((vs.length : Nat) : Int)) trivial |> fun z => by rw [← hl]; exact z)⟩
theorem hf_ixT {α : Type} [Sca α] {x : TupL α} {ti : TE} {m : Res Int} (hΓ : Γ[j]? = some (.im x)) (hi : HF K ti Γ m) : HF K (tOp (rIxT K) (tVar j) ti) Γ (m.bind fun i => lGet x.l i) := .mk fun X Q E q => by
  obtain ⟨v, hs, a, vs, e, ha, p⟩ := E.get hΓ
  subst e
  refine ⟨_, hs, hi.run X _ E (wpb q fun i q _ => ?_)⟩
  unfold lGet at q
  cases e : atI x.l i with
  | none => rw [e] at q; exact q.elim
  | some y =>
    rw [e] at q
    obtain ⟨w, e2, r⟩ := atI_paired p e
    refine ⟨a, vs, i, w, rfl, rfl, same_seqT E.same ha, e2, ?_⟩
    rw [r.1]
    exact q r.2
theorem hf_ixTp {α : Type} [Sca α] {x : TupL α} {ti : TE} {i : Int} (hΓ : Γ[j]? = some (.im x)) (hi : HF K ti Γ (.ok i)) : HF K (tOp (rIxT K) (tVar j) ti) Γ (lGet x.l i) := hf_ixT hΓ hi
theorem tyx_tup {a : Addr} {xs : List V} (h : SqT K H a xs) : TyX K H (.ref a) (.type "tuple") := by
  rcases h with (h | ⟨o, h⟩) | ⟨o, its, n, hk, hc, _⟩
  · exact .base (.tup h)
  · exact .fTuple h
  · exact .kTuple hk hc
theorem hf_isTupL {α : Type} [Rep α] {T : String} {b : Bool} {xs : TupL α} (hΓ : Γ[i]? = some (.im xs)) (e : ∀ K, PySem.W.kitOne K (.type "tuple") (.type T) = some b) : HF K (tIsi K i T) Γ (.ok b) := .mk fun X Q E q => by
  obtain ⟨v, hs, a, vs, e1, ha, _⟩ := E.get hΓ
  subst e1
  exact ⟨_, hs, _, _, _, _, b, rfl, .ty T, tyx_tup (same_seqT E.same ha), e K, q trivial⟩
theorem hf_isTup2 {α β : Type} [Rep α] [Rep β] {T : String} {b : Bool} {xs : α × β} (hΓ : Γ[i]? = some (.im xs)) (e : ∀ K, PySem.W.kitOne K (.type "tuple") (.type T) = some b) : HF K (tIsi K i T) Γ (.ok b) := .mk fun X Q E q => by
  obtain ⟨v, hs, a, v1, v2, e1, ha, _⟩ := E.get hΓ
  subst e1
  exact ⟨_, hs, _, _, _, _, b, rfl, .ty T, tyx_tup (same_seqT E.same ha), e K, q trivial⟩
theorem hf_isTup3 {α β γ : Type} [Rep α] [Rep β] [Rep γ] {T : String} {b : Bool} {xs : T3 α β γ} (hΓ : Γ[i]? = some (.im xs)) (e : ∀ K, PySem.W.kitOne K (.type "tuple") (.type T) = some b) : HF K (tIsi K i T) Γ (.ok b) := .mk fun X Q E q => by
  obtain ⟨v, hs, a, v1, v2, v3, e1, ha, _⟩ := E.get hΓ
  subst e1
  exact ⟨_, hs, _, _, _, _, b, rfl, .ty T, tyx_tup (same_seqT E.same ha), e K, q trivial⟩
/-! ### a text's find from a place on -/
noncomputable def xFind (a b : Tx) (i : Int) : Int := Txt.find3 (mkS a) (mkS b) i
def rFind3 : V → List V → Hp → VK → Prop := fun x xs H Q => ∃ (a b : Str) (i : Int), x = .str a ∧ xs = [.str b, .int i] ∧ Q (.int (Txt.find3 a b i)) H
theorem hf_find3 {ta tb tc : TE} {m1 m2 : Res Tx} {m3 : Res Int} (h1 : HF K ta Γ m1) (h2 : HF K tb Γ m2) (h3 : HF K tc Γ m3) : HF K (tBM K "str" rFind3 ta (tCons tb (tCons tc tNil))) Γ (m1.bind fun a => m2.bind fun b => m3.bind fun i => .ok (xFind a b i)) := .mk fun X Q E q =>
  h1.run X _ E (wpb q fun a q oa => ⟨rfl, h2.run X _ E (wpb q fun b q ob => h3.run X _ E (wpb q fun i q oi => ⟨_, _, i, rfl, rfl, q trivial⟩))⟩)
/-! ### if-else with calls, as a value -/
theorem uTif {tt : TT} {ta tb : TE} (h : tt σ H fun c H1 => if c = true then ta σ H1 Q else tb σ H1 Q) : tIf tt ta tb σ H Q := h
theorem st_itex {α : Type} {b : Bool} {ta tb : TE} {mA mB : Res α} {k : α → Res ω} (oc : α → Cell) (E : Env K I H σ Γ ρ Θ) (h : wp ((if b = true then mA else mB).bind k) P X)
    (h1 : wp mA (fun a => ∀ I' H' v, Env K I' H' σ Γ (some v :: ρ) (oc a :: Θ) → Q v H') X → ta σ H Q) (h2 : wp mB (fun a => ∀ I' H' v, Env K I' H' σ Γ (some v :: ρ) (oc a :: Θ) → Q v H') X → tb σ H Q)
    (next : ∀ a I' H' v, Env K I' H' σ Γ (some v :: ρ) (oc a :: Θ) → wp (k a) P X → Q v H') : if b = true then ta σ H Q else tb σ H Q := by
  cases b with
  | true => exact h1 (wpb h fun a h I' H' v E => next a I' H' v E h)
  | false => exact h2 (wpb h fun a h I' H' v E => next a I' H' v E h)
end
end M
namespace M
open PySem PySem.Spec PyProof.Rows L2
/-! ### calls with defaults -/
section
variable {X : Cx} {CX : CXT} {k : Nat} {f : Addr} {fd : FuncData} {ps : List Str} {sp : Sp} {E : L2.St → XK} {x : Str} {p pos : Pos} {e : Expr} {es : List Expr} {t : TA} {ds : List Value} {dvs : List V}
def tCallD (sp : Sp) (dvs : List V) (E : L2.St → XK) (t : TA) : TE := fun σ H Q => t σ H fun vs H1 => sp (vs ++ dvs) H1 Q (E σ)
theorem run_fnD {pins : List (Addr × Obj)} {σ : L2.St} {H : Hp} {s : Shared} {Q : VK} {us : List Value} {vs : List V} (F : FnOk X.prog X.w X.K X.mg X.base CX k f fd ps sp) (hr : Room k X.A) (hb : Binds X.K fd ps ds) (rd : Vals dvs ds) (hx : PassesAt CX X σ (E σ))
    (I : Inv X pins σ H s) (r : Vals vs us) (h : sp (vs ++ dvs) H Q (E σ)) : wpAny (model X.prog X.w) X.A (call (.ref f) us) (EP X pins σ Q) X.xe s := by
  have r2 := r.append rd
  have hl : (us ++ ds).length = ps.length := by rw [← r2.length]; exact F.len _ _ _ _ h
  have b := hb s us I.kIn hl
  refine wpAny_call (codeAny_mono (F.run X.A X.stack s H ⟨us, []⟩ (us ++ ds) (vs ++ dvs) Q (E σ) hr I.env0 b r2 h) fun r s' hq => ?_)
  cases r with
  | error e => exact hx pins H s e s' I hq
  | ok fl =>
    cases fl with
    | ret u => exact I.after hq
    | next => exact False.elim hq
    | brk => exact False.elim hq
    | cont => exact False.elim hq
theorem pe_callD (F : FnOk X.prog X.w X.K X.mg X.base CX k f fd ps sp) (hr : Room k X.A) (hg : Gl X x) (hm : X.mg x = some (.ref f)) (hk : PySem.W.keepIn X.K (.ref f) = true) (hb : Binds X.K fd ps ds) (rd : Vals dvs ds) (hx : ∀ σ, PassesAt CX X σ (E σ))
    (ha : PA X (e :: es) t) (hdb : (x == ("__debug__" : Str)) = false := by decide) (he : starEach (e :: es) X.env = (false, eval e X.env) :: starEach es X.env := by rfl) (hpl : (backTo pos (starEach es X.env)).any (·.1) = false := by rfl) :
    PE X (.Call (.Name x p) (e :: es) [] pos) (tCallD sp dvs E t) := by
  refine ⟨fun pins s σ H Q I h => ?_⟩
  refine wpAny_Call_Name_kw (ld_glob I hg hm ?_ hdb)
  refine PySem.W.callWith_K (h₀ := X.base) I.ok.mod.kin hk (thn (ha.run pos pins s σ H _ I h) fun us s1 ⟨vs, H1, I1, r, q⟩ => ⟨I1.kIn, ?_⟩) he hpl
  exact run_fnD F hr hb rd (hx σ) I1 r q
theorem uCallD {σ : L2.St} {H : Hp} {Q : VK} (h : t σ H fun vs H1 => sp (vs ++ dvs) H1 Q (E σ)) : tCallD sp dvs E t σ H Q := h
end
/-- keyword-only parameters by their defaults, no other defaults -/
theorem binds_kd {K : PySem.W.Frag} {x qual : Str} {st : Stmt} {f : Addr} {fd : FuncData} {ps : List Str} {D : Addr} (kws : List (Str × V)) (hk : kws ≠ []) (n : Nat) (hn : n + kws.length = ps.length)
    (hf : ∃ (oc : Value) (od : Option Addr) (doc pm : Value) (an : Option Addr) (cdv ct : Value) (osl : Array (Option Value)), fd = PySem.W.fnOf x qual (defArgs st) (defBody st) (defScope st) .none (.ref D) doc pm an cdv ct ∧ K.lookup f = some ⟨oc, od, .func fd, osl⟩ ∧ PySem.W.codeIn K cdv qual = true)
    (kp : PySem.W.keepIn K (.ref f) = true) (hq : ∀ q ∈ kws, ∃ u, PySem.W.nsIn K D q.1 = some (some u) ∧ RelV q.2 u)
    (h : ∀ (D : Addr) (doc pm : Value) (an : Option Addr) (cdv ct : Value) (us ks : List Value), us.length = n → ks.length = kws.length →
      KwChain D ((kws.map (·.1)).zip ks) (bindArgs (PySem.W.fnOf x qual (defArgs st) (defBody st) (defScope st) .none (.ref D) doc pm an cdv ct) ⟨us, []⟩) (ps.zip (us ++ ks))) : ∃ ds, Vals (kws.map (·.2)) ds ∧ Binds K fd ps ds := by
  obtain ⟨oc, od, doc, pm, an, cdv, ct, osl, e1, e2, e3⟩ := hf
  have F : FunD K x qual (defArgs st) (defBody st) (defScope st) [] kws f fd := ⟨⟨oc, od, .none, .ref D, doc, pm, an, cdv, ct, osl, e1, e2, e3, .inl ⟨rfl, rfl⟩, .inr ⟨D, rfl, hq⟩⟩, kp⟩
  exact F.binds0 n hk hn h
/-! ### ord, in, tuple, list(range(a, b)) -/
def xOrd (w : Tx) : Res Int := match w with | [c] => .ok (c : Int) | _ => .bad
theorem hc_ord {x : Tx} : HC1 (fun xs H Q => ∃ z : Str, xs = [V.str z] ∧ z.length = 1 ∧ Q (.int (z.cps.getD 0 0 : Nat)) H) x (xOrd x) := .mk fun X Q ox q => by
  unfold xOrd at q
  match x, q with
  | [c], q => exact ⟨mkS [c], rfl, rfl, q trivial⟩
  | [], q => exact q.elim
  | _ :: _ :: _, q => exact q.elim
section
variable {K : PySem.W.Frag} {I H : Hp} {σ ρ : List (Option V)} {Γ Γ' Θ : List Cell} {i j : Nat} {v : V} {pn : Option V} {te tl : TE} {Q : VK} {ω : Type} {P : ω → Prop} {X : Exn → Prop}
theorem inV_ints (x : Int) (ns : List Int) : inV (.int x) (ns.map V.int) = decide (x ∈ ns) := by
  unfold inV
  induction ns with
  | nil => rfl
  | cons n ns ih =>
    rw [List.map_cons, List.any_cons, ih]
    have e : eqV (.int n) (.int x) = decide (n = x) := by
      show (n == x) = _
      by_cases q : n = x
      · subst q; simp
      · simp [q]
    rw [e]
    by_cases q : n = x
    · subst q; simp
    · have : ¬ x = n := fun z => q z.symm
      simp [q, this]
theorem flat_ints (ns : List Int) : (ns.map V.int).all flatV = true := by
  rw [List.all_eq_true]
  intro x hx
  obtain ⟨n, _, rfl⟩ := List.mem_map.mp hx
  rfl
theorem hf_in_of {xs : List Int} {m : Res Int} (hv : ∀ {I H : Hp} {σ ρ : List (Option V)} {Θ : List Cell}, Env K I H σ Γ ρ Θ → ∃ a vs, σ[j]? = some (some (.ref a)) ∧ H a = some (.lst vs) ∧ Paired (fun v x => Rep.rp K I v x) vs xs) (ht : HF K te Γ m) :
    HF K (tOp (rIn K false) te (tVar j)) Γ (m.bind fun x => .ok (decide (x ∈ xs))) := .mk fun X Q E q => ht.run X _ E (wpb q fun x q _ => by
  obtain ⟨a, vs, hs, ha, p⟩ := hv E
  have e := ints_rp p
  subst e
  refine ⟨_, hs, a, _, rfl, .inl (SqL.of ha), rfl, flat_ints _, ?_⟩
  show Q (.bl (inV (.int x) (xs.map V.int))) _
  rw [inV_ints]
  exact q trivial)
theorem hf_inL {xs : List Int} {m : Res Int} (hΓ : Γ[j]? = some (.im xs)) (ht : HF K te Γ m) : HF K (tOp (rIn K false) te (tVar j)) Γ (m.bind fun x => .ok (decide (x ∈ xs))) := hf_in_of (fun E => E.listAt hΓ) ht
theorem hf_inO {xs : List Int} {m : Res Int} (hΓ : Γ[j]? = some (.own xs pn)) (ht : HF K te Γ m) : HF K (tOp (rIn K false) te (tVar j)) Γ (m.bind fun x => .ok (decide (x ∈ xs))) := hf_in_of (fun E => E.ownAt' hΓ) ht
abbrev rTupOf (K : PySem.W.Frag) : List V → Hp → VK → Prop := fun xs H Q => ∃ p ys, xs = [.ref p] ∧ ((SqL K H p ys ∧ ∀ l, H l = none → Q (.ref l) (upd H l (.tup ys))) ∨ (SqT K H p ys ∧ Q (.ref p) H))
theorem st_tupleOf {α : Type} [Rep α] {xs : List α} (E : Env K I H σ Γ (some v :: ρ) (.im xs :: Θ)) (next : ∀ I' H' v, Env K I' H' σ Γ (some v :: ρ) (.im (TupL.mk xs) :: Θ) → Q v H') : CbG (rTupOf K) [v] H Q := by
  obtain ⟨a, vs, rfl, ha, pr⟩ := E.topR
  refine ⟨a, vs, rfl, .inl ⟨SqL.of (E.same _ _ ha), fun p hp => ?_⟩⟩
  have E2 := E.pop
  exact next _ _ _ ((E2.grow (Grow.newI (u := .tup vs) E2.same hp)).push ⟨p, vs, rfl, .inl (.inl upd_same), Paired.monoR (fun _ _ z => Rep.mono (fun a o e => by rw [upd_ne (ne_of_none e (E2.2.2.none_of hp))]; exact e) z) pr⟩)
theorem st_tupleOfT {α : Type} [Rep α] {xs : TupL α} (E : Env K I H σ Γ (some v :: ρ) (.im xs :: Θ)) (next : ∀ v, Env K I H σ Γ (some v :: ρ) (.im xs :: Θ) → Q v H) : CbG (rTupOf K) [v] H Q := by
  obtain ⟨a, vs, rfl, ha, pr⟩ := E.topR
  exact ⟨a, vs, rfl, .inr ⟨same_seqT E.same ha, next _ E⟩⟩
noncomputable def rngL2 (a b : Int) : Res (List Int) := clo (if -1000000 ≤ a ∧ a ≤ 1000000 ∧ -1000000 ≤ b ∧ b ≤ 1000000 then .ok (rng a b) else .bad)
theorem lstRg2_of {ta tb : TE} {m1 m2 : Res Int} {k : List Int → Res ω} (E : Env K I H σ Γ ρ Θ) (h1 : HF K ta Γ m1) (h2 : HF K tb Γ m2) (h : wp (m1.bind fun a => m2.bind fun b => (rngL2 a b).bind k) P X)
    (next : ∀ a b : Int, wp (k (rng a b)) P X → ∀ p, H p = none → Q (.ref p) (upd H p (.lst ((rng a b).map V.int)))) : tLstRg (tRg2 ta tb) σ H Q :=
  h1.run X _ E (wpb h fun a h _ => h2.run X _ E (wpb h fun b h _ => by
    unfold rngL2 at h
    rw [clo_eq] at h
    by_cases hr : -1000000 ≤ a ∧ a ≤ 1000000 ∧ -1000000 ≤ b ∧ b ≤ 1000000
    · rw [if_pos hr] at h
      exact ⟨a, b, rfl, rfl, by unfold L2.RgOk; omega, by rw [rgV_rng]; exact next a b h⟩
    · rw [if_neg hr] at h
      exact h.elim))
theorem st_lstRg2I {ta tb : TE} {m1 m2 : Res Int} {k : List Int → Res ω} (E : Env K I H σ Γ ρ Θ) (h1 : HF K ta Γ m1) (h2 : HF K tb Γ m2) (h : wp (m1.bind fun a => m2.bind fun b => (rngL2 a b).bind k) P X) (next : ∀ xs I' H' v, Env K I' H' σ Γ (some v :: ρ) (.im xs :: Θ) → wp (k xs) P X → Q v H') : tLstRg (tRg2 ta tb) σ H Q :=
  lstRg2_of E h1 h2 h fun a b h => st_newI E (rp_ints _) fun I' H' v E => next _ I' H' v E h
theorem st_lstRg2O {ta tb : TE} {m1 m2 : Res Int} {k : List Int → Res ω} (E : Env K I H σ Γ ρ Θ) (h1 : HF K ta Γ m1) (h2 : HF K tb Γ m2) (h : wp (m1.bind fun a => m2.bind fun b => (rngL2 a b).bind k) P X) (next : ∀ xs H' v, Env K I H' σ Γ (some v :: ρ) (.own xs :: Θ) → wp (k xs) P X → Q v H') : tLstRg (tRg2 ta tb) σ H Q :=
  lstRg2_of E h1 h2 h fun a b h => st_newO E (rp_ints _) fun H' v E => next _ H' v E h
end
end M
/-! ### enumerate of a tuple -/
namespace EnT
open PySem PySem.Calls PyProof.Rows
set_option maxHeartbeats 1000000 in
theorem meets_enumerate_new1 {v : Value} {o : Obj} {H : Heap → Prop} (B : Begins v o H) :
    Meets (Builtin.«enumerate.__new__» ⟨[.type "enumerate", v], []⟩) (fun _ R s => H s.heap ∧
      R (.ok (.ret (.ref (s.heap.push o).objs.size))) { s with heap := (s.heap.push o).push { cls := .type "enumerate", data := .fields #[.none, .bool false, .ref s.heap.objs.size, rawInt 0, .none, .none] } }) :=
  .of_wp fun prog w A R s h => by
    obtain ⟨hp, g, d, tk, os⟩ := s; obtain ⟨h1, h⟩ := h
    have hsub := sub_enumerate
    have q1 : ∀ {A' : Around} {E : Value → Shared → Prop} {Q : Value → Shared → Prop}, Q (.ref hp.objs.size) ⟨hp.push o, g, d, tk, os⟩ → wpAny (model prog w) A' (pyIter v) Q E ⟨hp, g, d, tk, os⟩ :=
      fun q => B.iter prog w _ _ ⟨hp, g, d, tk, os⟩ _ h1 q
    wp_walk using q1
    refine wpAny_stack_any fun st => wpAny_pure ?_
    split
    · rename_i c _ _ _ _ _
      cases (c == Value.type "enumerate")
      · wp_walk using q1
        exact ⟨_, rfl, h⟩
      · wp_walk using q1
        exact ⟨_, rfl, h⟩
    · wp_walk using q1
      exact ⟨_, rfl, h⟩
section
variable {prog : Program} {w : World} {A : Around} {E : Value → Shared → Prop} {s : Shared}
theorem call_enumerate_tuple {l : Addr} {items : Array Value} {Q : Value → Shared → Prop} (hL : s.heap.IsTuple l items)
    (h : ∀ h', IsEnum h' (s.heap.objs.size + 1) s.heap.objs.size 0 .none → h'.IsTupleIter s.heap.objs.size l 0 → h'.objs.size = s.heap.objs.size + 2 →
      (∀ b o, s.heap.get? b = some o → h'.get? b = some o) → Q (.ref (s.heap.objs.size + 1)) { s with heap := h' }) :
    wpAny (model prog w) A (call (.type "enumerate") [.ref l]) Q E s := by
  refine callType_new F.called_enumerate (by decide) (F.typeCall_enumerate_1 _) (F.newCall_enumerate_1 _) (fun obj => F.args_object_init_2 obj _) F.entry_enumerate_new
    (meets_enumerate_new1 (begins_tuple l items)) ⟨hL, ?_⟩
  have hz : (s.heap.push { cls := .type "tuple_iterator", data := .fields #[.ref l, .int 0 0] }).objs.size = s.heap.objs.size + 1 := Heap.size_push ..
  show _ ∧ _
  rw [hz]
  have he : IsEnum ((s.heap.push { cls := .type "tuple_iterator", data := .fields #[.ref l, .int 0 0] }).push
      { cls := .type "enumerate", data := .fields #[.none, .bool false, .ref s.heap.objs.size, rawInt 0, .none, .none] }) (s.heap.objs.size + 1) s.heap.objs.size 0 .none := by
    have := Heap.get?_push_size (s.heap.push { cls := .type "tuple_iterator", data := .fields #[.ref l, .int 0 0] })
      (o := { cls := .type "enumerate", data := .fields #[.none, .bool false, .ref s.heap.objs.size, rawInt 0, .none, .none] }) rfl
    rw [hz] at this; exact this
  refine ⟨⟨_, he, rfl⟩, h _ he ⟨_, Heap.get?_push_of_some _ (Heap.get?_push_size _ rfl), rfl, rfl⟩ (by rw [Heap.size_push, hz]) fun b o x => Heap.get?_push_of_some _ (Heap.get?_push_of_some _ x)⟩
theorem pyNext_enum_endT {e it t : Addr} {i : Nat} {k : Int} {items : Array Value} {old : Value} {Q : Option Value → Shared → Prop} (hh : A.handled = none)
    (he : IsEnum s.heap e it k old) (hit : s.heap.IsTupleIter it t i) (ht : s.heap.IsTuple t items) (hx : items[i]? = none)
    (hQ : ∀ h', Heap.ExtBut it s.heap h' → Q none { s with heap := h' }) : wpAny (model prog w) A (pyNext (.ref e)) Q E s := by
  have hT : s.TypeIs (.ref e) "enumerate" := ⟨_, he, rfl⟩
  unfold pyNext
  refine wpAny_bind (wpAny_attempt (wpAny_callSpecial?_slot (name := Str.ofString "__next__") hT F.slot_enumerate_next
    (wpAny_call_entry F.slot_enumerate_next hT F.entry_enumerate_next ?_ (F.args_enumerate_next_1 _))))
  show wpAny _ _ (field (.ref e) 2 >>= _) _ _ _
  refine wpAny_bind (wpAny_field he rfl (x := .ref it) rfl ?_)
  refine wpAny_bind (wpAny_nextOf_tuple_end hh hit ht hx fun h' x he' hx' => ?_)
  obtain ⟨o, ho, hc⟩ := hx'
  refine wpAny_bind (wpAny_isInstance (T := "StopIteration") (b := true) ⟨o, ho, hc⟩ isSubtype_stop ?_)
  exact wpAny_pure (hQ _ he')
end
end EnT
namespace L2
open PySem PySem.Spec PyProof.Rows EnT
def IteT (K : PySem.W.Frag) (a : Addr) : It :=
  ⟨fun i H => ∃ (xs : List V) (x : V), SqT K H a xs ∧ xs[i]? = some x, fun i H v H' => ∃ T x, v = .ref T ∧ H T = none ∧ H' = upd H T (.tup [.int (i : Nat), x]) ∧ ∀ xs, SqT K H a xs → xs[i]? = some x, fun i H => ∃ xs : List V, SqT K H a xs ∧ xs.length ≤ i⟩
theorem turn_enumT {P : Program} {w : World} {K : PySem.W.Frag} {elts : List Expr} {kk : Nat} {tpos : Pos} (a e it : Addr) :
    Turn P w K (.Tuple elts kk tpos) (IteT K a) [e, it] e (fun i h => (∃ old, IsEnum h e it ((i : Nat) : Int) old) ∧ h.IsTupleIter it a i ∧ e ≠ it ∧ e ≠ a ∧ a ≠ it) where
  mem := by simp
  obj := fun i h st b hb => by
    obtain ⟨⟨old, he⟩, ⟨o, ho, hc, hd⟩, _⟩ := st
    have e' : b = e ∨ b = it := by simpa using hb
    rcases e' with z | z
    · rw [z]; exact ⟨_, he, fun v q => nomatch q⟩
    · rw [z]; exact ⟨o, ho, fun v q => by rw [hd] at q; cases q⟩
  keep := fun i h h' st k => let ⟨⟨old, he⟩, hi, hne⟩ := st; ⟨⟨old, k e (by simp) _ he⟩, hi.at fun o q => k it (by simp) o q, hne⟩
  item := by
    intro X hP hw hK hc i pins s σ H E I hf st hg
    subst hP hw hK
    obtain ⟨⟨old, he⟩, hit, hne, hea, hai⟩ := st
    obtain ⟨xs, x, hq, hx⟩ := hg
    obtain ⟨its, rv, p, hz⟩ := I.tuple hq
    obtain ⟨u, hu, ru⟩ := rv.get hx
    have hel : e < s.heap.objs.size := Heap.lt_size he
    have hil : it < s.heap.objs.size := by obtain ⟨_, q, _⟩ := hit; exact Heap.lt_size q
    have p' : s.heap.IsTuple a its.toArray := p
    have hlt : i < its.toArray.size := by
      have := (List.getElem?_eq_some_iff.mp hu).1
      simpa using this
    refine wpAny_pyNext_enum_itemD (Draws.tuple (A := X.A.in1) (by first | exact I.ok.hd hc | rfl) it a hai its.toArray) he ⟨hit, p'⟩ hlt hne (by simp [hne, hea]) fun x' h' tk hx' ho hst' hT hsz hk => ?_
    have ex : x' = u := by
      have : its.toArray[i]? = some x' := hx'
      rw [show its.toArray[i]? = some u by simpa using hu] at this
      exact (Option.some.inj this).symm
    subst ex
    refine ⟨_, rfl, wpAny_letOwnedTupleGo_enum (s := { s with heap := h', toks := tk + 1 }) ho fun h'' he' sb => ?_⟩
    have hT2 : h''.get? s.heap.objs.size = some { cls := .type "tuple", data := .seq #[.int i tk, x'] } := (sb.2 _ (Nat.ne_of_gt hel)).trans hT
    have new : ObjOk X.prog X.w (upd H s.heap.objs.size (.tup [.int (i : Nat), x])) h'' s.heap.objs.size (.tup [.int (i : Nat), x]) :=
      ⟨by show 2 ≤ sizeLine; decide, [.int i tk, x'], .cons ⟨_, rfl⟩ (.cons ru .nil), ⟨_, hT2, rfl, _, rfl⟩⟩
    have I1 : Inv X pins σ (upd H s.heap.objs.size (.tup [.int (i : Nat), x])) { s with heap := h'', toks := tk + 1 } :=
      I.turnedNew (ch := [e, it]) (fun b ob hb q => (sb.2 b (fun z => hb (by simp [z]))).trans (hk b ob (fun z => hb (by simp [z])) (fun z => hb (by simp [z])) q)) hf (Nat.le_refl _) new
    refine ⟨.ref s.heap.objs.size, _, I1, rfl, ⟨_, x, rfl, I.hok.fresh (Nat.le_refl _), rfl, fun ys hy => by rw [I.tuple_inj hy hq]; exact hx⟩, ⟨⟨x', ?_⟩, hst'.1.at fun o q => (sb.2 it (Ne.symm hne)).trans q, hne, hea, hai⟩, fun b hb => ?_⟩
    · have e1 : ((i + 1 : Nat) : Int) = (i : Int) + 1 := by omega
      rw [e1]; exact he'
    · have hb' : b < s.heap.objs.size := by
        have e' : b = e ∨ b = it := by simpa using hb
        rcases e' with z | z
        · rw [z]; exact hel
        · rw [z]; exact hil
      rw [upd_ne (Nat.ne_of_lt hb')]
      exact (hf b hb).1
  done := by
    intro X hP hw hK hc i pins s σ H E I hf st hg
    subst hP hw hK
    obtain ⟨⟨old, he⟩, hit, hne⟩ := st
    obtain ⟨xs, hq, hx⟩ := hg
    obtain ⟨its, rv, p, hz⟩ := I.tuple hq
    obtain ⟨f0, f1, f2, f3, f4, f5⟩ := hf it (by simp)
    have hl := rv.length
    exact pyNext_enum_endT (I.ok.hd hc) he hit (show s.heap.IsTuple a its.toArray from p) (by simp; omega) fun h' eb => ⟨rfl, I.turned (t' := s.toks) (fun b o hb q => eb b o hb q) f0 f1 f3 f4 f5⟩
  self := fun A i s Q E st h => let ⟨⟨_, he⟩, _⟩ := st; wpAny_pyIter_enum he h
def iEnumT (K : PySem.W.Frag) (ta : TA) : TI := fun σ H R => ta σ H fun vs H1 => ∃ a xs, vs = [.ref a] ∧ SqT K H1 a xs ∧ R (IteT K a) H1
theorem pi_enumT {X : Cx} {e : Expr} {ta : TA} {p pos tpos : Pos} {elts : List Expr} {kk : Nat} (hg : Gl X "enumerate") (hm : X.mg "enumerate" = none) (ha : PA X [e] ta) (hs : starEach [e] X.env = [(false, eval e X.env)] := by rfl) :
    PI X (.Tuple elts kk tpos) (.Call (.Name "enumerate" p) [e] [] pos) (iEnumT X.K ta) := by
  refine ⟨fun pins s σ H R I h => ?_⟩
  refine Call_ (ld_blt I hg hm boot_enumerate (PyProof.Rows.callWith_type1 (thn (ha.run pos pins s σ H _ I h) fun us s1 ⟨vs, H1, I1, r1, q1⟩ => ?_) hs rfl))
  obtain ⟨a, xs, ex, hq, q⟩ := q1
  subst ex
  cases r1 with
  | cons r rr =>
    cases rr
    cases r
    obtain ⟨its, rv, p', hz⟩ := I1.tuple hq
    have hal : a < s1.heap.objs.size := by obtain ⟨o, ho, _⟩ := p'; exact Heap.lt_size ho
    refine call_enumerate_tuple (show s1.heap.IsTuple a its.toArray from p') fun h' he hit hsz hk => wpAny_pyIter_enum he ?_
    have I2 : Inv X pins σ H1 { s1 with heap := h' } := I1.kept (t' := s1.toks) hk
    refine ⟨s1.heap.objs.size + 1, [s1.heap.objs.size + 1, s1.heap.objs.size], _, _, H1, rfl, I2, turn_enumT a (s1.heap.objs.size + 1) s1.heap.objs.size, ⟨⟨.none, he⟩, hit, Nat.succ_ne_self _, Nat.ne_of_gt (Nat.lt_succ_of_lt hal), Nat.ne_of_lt hal⟩, fun b hb => ?_, q⟩
    have e' : b = s1.heap.objs.size + 1 ∨ b = s1.heap.objs.size := by simpa using hb
    have hle : s1.heap.objs.size ≤ b := by
      rcases e' with z | z
      · rw [z]; exact Nat.le_add_right _ _
      · rw [z]; exact Nat.le_refl _
    exact I1.fpOk hle (I1.hok.fresh hle)
end L2
namespace M
open PySem PySem.Spec PyProof.Rows L2
section
variable {K : PySem.W.Frag} {mg : Str → Option Value} {I I1 H I' H' : Hp} {σ σ' ρ : List (Option V)} {Γ Γ1 Θ : List Cell} {i j n : Nat} {v v0 v1 v2 v3 : V} {te tl ti : TE} {ta : TA} {tt : TT} {t u : TS} {to : TO} {dn db dc : L2.St → Hp → Prop} {dr : VK} {Q : VK} {W : WX}
variable {pn : Option V} {ω : Type} {P : ω → Prop} {X : Exn → Prop} {α β γ δ : Type}
theorem EnvL.snapO {es es1 : List Ent} (h : EnvL K I H es) (h1 : EnvL K I1 H es1) (s : LetS I I1) (hn : ∀ e ∈ es1, e.2 = noOwn e.2) : ∃ S : Snap, EnvL K I1 H ((some V.non, .own S) :: es1) ∧
    (∀ {I' H' : Hp} {o : Option V} {r : List Ent}, EnvL K I' H' ((o, .own S) :: r) → EnvL K I H' es) ∧
    (∀ {I' H' : Hp} {o : Option V} {r : List Ent} {d : V} {fs : List (Str × V)}, EnvL K I' H' ((some d, .im (XD.mk fs)) :: (o, .own S) :: r) → (∃ I2, EnvL K I2 H' ((some d, .im (XD.mk fs)) :: es))) ∧
    ∀ {β : Type} [Sca β] {bs : List β} {pn : Option V} {v : V} {I' H' : Hp} {o : Option V} {r : List Ent}, EnvL K I' H' ((some v, .own bs pn) :: (o, .own S) :: r) → EnvL K I H' ((some v, .own bs) :: es) := by
  obtain ⟨sm, fs, e1, e2, e3⟩ := h
  obtain ⟨sm1, fs1, d1, d2, d3⟩ := h1
  have f0 := Ents.noOwn0 hn d1
  classical
  refine ⟨⟨I1, H, fs.flatten.filter fun a => decide (I1 a = none)⟩, ⟨sm1, _ :: fs1, ⟨⟨V.non, rfl, (fun _ z => nomatch z), rfl, Same.refl _, fun _ _ => rfl⟩, d1⟩, ?_, ?_⟩, fun {I' H' o r} z => ?_, fun {I' H' o r d xs} z => ?_, fun {β _ bs pn v I' H' o r} z => ?_⟩
  · rw [List.flatten_cons, f0, List.append_nil]
    exact e2.filter _
  · intro a ha
    rw [List.flatten_cons, f0, List.append_nil] at ha
    have ha := List.mem_filter.mp ha
    exact ⟨by simpa using ha.2, (e3 a ha.1).2⟩
  · obtain ⟨t1, gs, t2, t3, t4⟩ := z
    cases gs with
    | nil => exact t2.elim
    | cons g gs =>
      obtain ⟨⟨w, _, _, q1, q2, q3⟩, _⟩ := t2
      have q1 : g = _ := q1
      have q2 : Same I1 I' := q2
      have hk : ∀ a ∈ fs.flatten, H' a = H a := fun a ha => by
        cases e : I1 a with
        | none => exact q3 a (by rw [q1]; exact List.mem_filter.mpr ⟨ha, by simpa using e⟩)
        | some u => rw [t1 a u (q2 a u e), sm1 a u e]
      refine ⟨fun a u e => t1 a u (q2 a u (s.same a u e)), fs, Ents.mono (Same.refl _) hk e1, e2, fun a ha => ⟨(e3 a ha).1, ?_⟩⟩
      rw [hk a ha]
      exact (e3 a ha).2
  · obtain ⟨t1, gs, t2, t3, t4⟩ := z
    cases gs with
    | nil => exact t2.elim
    | cons g0 gs =>
      cases gs with
      | nil => exact t2.2.elim
      | cons g gs =>
        obtain ⟨⟨hg0, v0, ev0, hx0⟩, ⟨w, _, _, q1, q2, q3⟩, _⟩ := t2
        have q1 : g = _ := q1
        have q2 : Same I1 I' := q2
        have ev0 : some d = some v0 := ev0
        cases ev0
        have hk : ∀ a ∈ fs.flatten, H' a = H a := fun a ha => by
          cases e : I1 a with
          | none => exact q3 a (by rw [q1]; exact List.mem_filter.mpr ⟨ha, by simpa using e⟩)
          | some u => rw [t1 a u (q2 a u e), sm1 a u e]
        have hx0 : XDr I' d xs := hx0
        rcases hx0 with hx0 | ⟨d', ed', hxd⟩
        · have b : EnvL K I H' es := ⟨fun a u e => t1 a u (q2 a u (s.same a u e)), fs, Ents.mono (Same.refl _) hk e1, e2, fun a ha => ⟨(e3 a ha).1, by rw [hk a ha]; exact (e3 a ha).2⟩⟩
          exact ⟨I, b.im (a := XD.mk xs) (.inl hx0)⟩
        subst ed'
        have hd' : H' d' = some (.xd xs) := t1 _ _ hxd
        have sI : Same I (upd I d' (.xd xs)) := fun a u e => by
          by_cases hd : a = d'
          · subst hd
            have z1 := t1 a u (q2 a u (s.same a u e))
            rw [hd'] at z1
            rw [upd_same, ← z1]
          · rw [upd_ne hd]; exact e
        have nd : ∀ a ∈ fs.flatten, a ≠ d' := fun a ha hd => by
          subst hd
          cases e : I1 a with
          | none =>
            have : I' a = none := (t4 a (by
              rw [List.flatten_cons, List.flatten_cons]
              refine List.mem_append_right _ (List.mem_append_left _ ?_)
              rw [q1]; exact List.mem_filter.mpr ⟨ha, by simpa using e⟩)).1
            rw [hxd] at this
            cases this
          | some u =>
            rcases s.lst a u e with h | ⟨vs, h⟩
            · rw [(e3 a ha).1] at h; cases h
            · have z1 := t1 a u (q2 a u e)
              rw [hd', h] at z1
              cases z1
        refine ⟨upd I d' (.xd xs), fun a u e => ?_, [] :: fs, ⟨⟨rfl, _, rfl, .inr ⟨d', rfl, upd_same⟩⟩, Ents.mono sI hk e1⟩, ?_, fun a ha => ?_⟩
        · by_cases hd : a = d'
          · subst hd
            rw [upd_same] at e
            rw [← e]; exact hd'
          · rw [upd_ne hd] at e
            exact t1 a u (q2 a u (s.same a u e))
        · exact e2
        · have ha : a ∈ fs.flatten := ha
          refine ⟨by rw [upd_ne (nd a ha)]; exact (e3 a ha).1, ?_⟩
          rw [hk a ha]
          exact (e3 a ha).2
  · obtain ⟨t1, gs, t2, t3, t4⟩ := z
    cases gs with
    | nil => exact t2.elim
    | cons g0 gs =>
      cases gs with
      | nil => exact t2.2.elim
      | cons g gs =>
        obtain ⟨⟨v0, ev0, _, p, vs, e0, hg0, hp, pr⟩, ⟨w, _, _, q1, q2, q3⟩, _⟩ := t2
        have q1 : g = _ := q1
        have q2 : Same I1 I' := q2
        have ev0 : some v = some v0 := ev0
        cases ev0
        subst hg0
        have hk : ∀ a ∈ fs.flatten, H' a = H a := fun a ha => by
          cases e : I1 a with
          | none => exact q3 a (by rw [q1]; exact List.mem_filter.mpr ⟨ha, by simpa using e⟩)
          | some u => rw [t1 a u (q2 a u e), sm1 a u e]
        have pI : I' p = none := (t4 p (by simp)).1
        have np : ∀ a ∈ fs.flatten, a ≠ p := fun a ha q => by
          subst q
          cases e : I1 a with
          | none =>
            rw [List.flatten_cons, List.flatten_cons, q1] at t3
            exact (List.nodup_append.mp t3).2.2 a (by simp) a (List.mem_append_left _ (List.mem_filter.mpr ⟨ha, by simpa using e⟩)) rfl
          | some u => rw [q2 a u e] at pI; cases pI
        have pI0 : I p = none := by
          cases e : I p with
          | none => rfl
          | some u => rw [q2 p u (s.same p u e)] at pI; cases pI
        refine ⟨fun a u e => t1 a u (q2 a u (s.same a u e)), [p] :: fs, ⟨⟨v, rfl, (fun _ z => nomatch z), p, vs, e0, rfl, hp, Paired.monoR (fun _ _ z => z) pr⟩, Ents.mono (Same.refl _) hk e1⟩, ?_, fun a ha => ?_⟩
        · rw [List.flatten_cons]
          refine List.nodup_append.mpr ⟨by simp, e2, fun a ha b hb q => ?_⟩
          have e : a = p := by simpa using ha
          exact np b hb (q ▸ e)
        · rw [List.flatten_cons] at ha
          rcases List.mem_append.mp ha with ha | ha
          · have e : a = p := by simpa using ha
            subst e
            exact ⟨pI0, by rw [hp]; exact fun z => nomatch z⟩
          · exact ⟨(e3 a ha).1, by rw [hk a ha]; exact (e3 a ha).2⟩
/-- before such a call; E1: the same where what the call reads is let be -/
theorem Env.borrowO (E : Env K I H σ Γ ρ Θ) (E1 : Env K I1 H σ Γ1 ρ Θ) (s : LetS I I1) : ∃ S : Snap, Env K I1 H σ (Γ1.map noOwn) (some V.non :: ρ) (.own S :: Θ.map noOwn) ∧
    (∀ {β : Type} [Sca β] {b : β} {I' H' : Hp} {v : V} {σ2 : List (Option V)} {Γ2 Θ2 : List Cell} {o : Option V} {ρ2 : List (Option V)}, Env K I' H' σ2 Γ2 (some v :: o :: ρ2) (.im b :: .own S :: Θ2) → Env K I H' σ Γ (some v :: ρ) (.im b :: Θ)) ∧
    (∀ {I' H' : Hp} {σ2 : List (Option V)} {Γ2 Θ2 : List Cell} {o : Option V} {ρ2 : List (Option V)} {d : V} {fs : List (Str × V)}, Env K I' H' σ2 Γ2 (some d :: o :: ρ2) (.im (XD.mk fs) :: .own S :: Θ2) → ∃ I2, Env K I2 H' σ Γ (some d :: ρ) (.im (XD.mk fs) :: Θ)) ∧
    (∀ {β : Type} [Sca β] {bs : List β} {pn : Option V} {I' H' : Hp} {v : V} {σ2 : List (Option V)} {Γ2 Θ2 : List Cell} {o : Option V} {ρ2 : List (Option V)}, Env K I' H' σ2 Γ2 (some v :: o :: ρ2) (.own bs pn :: .own S :: Θ2) → Env K I H' σ Γ (some v :: ρ) (.own bs :: Θ)) := by
  have E2 := (E1.weak (wk_noOwn Γ1)).weakT (wk_noOwn Θ)
  obtain ⟨S, a, b, b2, b3⟩ := E.2.2.snapO E2.2.2 s fun e he => by
    rcases List.mem_append.mp he with he | he
    · exact zip_noOwn e he
    · exact zip_noOwn e he
  refine ⟨S, E2.toStack a, fun {β _ b' I' H' v σ2 Γ2 Θ2 o ρ2} Z => ?_, fun {I' H' σ2 Γ2 Θ2 o ρ2 d fs} Z => ?_, fun {β _ bs pn I' H' v σ2 Γ2 Θ2 o ρ2} Z => ?_⟩
  · have z := b Z.pop.unstack
    have r := Z.topS
    have E3 : Env K I H' σ Γ ρ Θ := ⟨E.1, E.2.1, z⟩
    rw [r.1]
    exact E3.pushS r.2
  · have z0 : EnvL K I' H' ((some d, .im (XD.mk fs)) :: (o, .own S) :: (σ2.zip Γ2 ++ ρ2.zip Θ2)) := by
      refine Z.2.2.perm ?_
      show (σ2.zip Γ2 ++ ((some d, Cell.im (XD.mk fs)) :: (o, Cell.own S) :: ρ2.zip Θ2)).Perm _
      exact List.perm_middle.trans (List.Perm.cons _ List.perm_middle)
    obtain ⟨I2, z⟩ := b2 z0
    exact ⟨I2, E.1, by simp [E.2.1], z.perm List.perm_middle.symm⟩
  · have z0 : EnvL K I' H' ((some v, .own bs pn) :: (o, .own S) :: (σ2.zip Γ2 ++ ρ2.zip Θ2)) := by
      refine Z.2.2.perm ?_
      show (σ2.zip Γ2 ++ ((some v, Cell.own bs pn) :: (o, Cell.own S) :: ρ2.zip Θ2)).Perm _
      exact List.perm_middle.trans (List.Perm.cons _ List.perm_middle)
    have z := b3 z0
    exact ⟨E.1, by simp [E.2.1], z.perm List.perm_middle.symm⟩
end
/-! ### enumerate, a star in a display, the truth of a list -/
def enumL {α : Type} (xs : List α) : List (Int × α) := xs.zipIdx.map fun p => ((p.2 : Int), p.1)
theorem enumL_len {α : Type} (xs : List α) : (enumL xs).length = xs.length := by unfold enumL; simp
theorem enumL_at {α : Type} {xs : List α} {i : Nat} {a : Int × α} (h : (enumL xs)[i]? = some a) : xs[i]? = some a.2 ∧ a.1 = (i : Int) := by
  unfold enumL at h
  rw [List.getElem?_map, List.getElem?_zipIdx] at h
  cases e : xs[i]? with
  | none => rw [e] at h; cases h
  | some x =>
    rw [e] at h
    have := Option.some.inj h
    rw [← this]
    simp
section
variable {K : PySem.W.Frag} {I H : Hp} {σ ρ : List (Option V)} {Γ Γ' Θ : List Cell} {i j : Nat} {v : V} {pn : Option V} {te tl : TE} {ta : TA} {Q : VK} {ω : Type} {P : ω → Prop} {X : Exn → Prop}
theorem uEnum {R : It → Hp → Prop} (h : ta σ H fun vs H1 => ∃ a xs, vs = [.ref a] ∧ SqL K H1 a xs ∧ R (Ite K a) H1) : iEnum K ta σ H R := h
theorem uEnumT {R : It → Hp → Prop} (h : ta σ H fun vs H1 => ∃ a xs, vs = [.ref a] ∧ SqT K H1 a xs ∧ R (IteT K a) H1) : iEnumT K ta σ H R := h
theorem enum_new {α : Type} [Rep α] {T : Addr} {x : V} {a : Int × α} {i : Nat} (s : Same I H) (hT : H T = none) (h1 : a.1 = (i : Int)) (r : Rep.rp K I x a.2) : ∃ I', Grow I H I' (upd H T (.tup [.int (i : Nat), x])) ∧ Rep.rp K I' (.ref T) a := by
  have hi : I T = none := by
    cases e : I T with
    | none => rfl
    | some o => rw [s T o e] at hT; cases hT
  refine ⟨_, Grow.newI s hT, T, _, _, rfl, .inl (.inl upd_same), ⟨by rw [h1]; rfl, trivial⟩, Rep.mono (fun b o e => by rw [upd_ne (ne_of_none e hi)]; exact e) r⟩
theorem it_enum {α : Type} [Rep α] {R : Addr → Prop} {xs : List α} (E : Env K I H σ Γ (some v :: ρ) (.im xs :: Θ)) (next : ∀ a, Feeds K (Ite K a) (enumL xs) [some v] [.im xs] → R a) :
    ∃ a ys, [v] = [.ref a] ∧ SqL K H a ys ∧ R a := by
  obtain ⟨a, vs, e, hq, pr⟩ := E.topR
  subst e
  refine ⟨a, vs, rfl, SqL.of (E.same _ _ hq), next _ ⟨rfl, fun {_ _} {_ _} {_ _} i E' hi => ?_, fun {I H} {_ _} {_ _} i x H' b E' hx hy => ?_, fun {_ _} {_ _} {_ _} i E' hi => ?_⟩⟩
  · obtain ⟨a', vs', e', hq', pr'⟩ := E'.topR
    cases e'
    have hl : vs'.length = xs.length := Paired.length pr'
    rw [enumL_len] at hi
    exact ⟨vs', vs'[i]'(by omega), SqL.of (E'.same _ _ hq'), List.getElem?_eq_getElem (by omega)⟩
  · obtain ⟨a', vs', e', hq', pr'⟩ := E'.topR
    cases e'
    obtain ⟨T, y, rfl, hT, rfl, hy⟩ := hy
    obtain ⟨hx1, hx2⟩ := enumL_at hx
    exact enum_new E'.same hT hx2 (paired_at pr' (hy _ (SqL.of (E'.same _ _ hq'))) hx1)
  · obtain ⟨a', vs', e', hq', pr'⟩ := E'.topR
    cases e'
    have hl : vs'.length = xs.length := Paired.length pr'
    rw [enumL_len] at hi
    exact ⟨vs', SqL.of (E'.same _ _ hq'), by omega⟩
theorem it_enumT {α : Type} [Rep α] {R : Addr → Prop} {xs : TupL α} (E : Env K I H σ Γ (some v :: ρ) (.im xs :: Θ)) (next : ∀ a, Feeds K (IteT K a) (enumL xs.l) [some v] [.im xs] → R a) :
    ∃ a ys, [v] = [.ref a] ∧ SqT K H a ys ∧ R a := by
  obtain ⟨a, vs, e, hq, pr⟩ := E.topR
  subst e
  refine ⟨a, vs, rfl, same_seqT E.same hq, next _ ⟨rfl, fun {_ _} {_ _} {_ _} i E' hi => ?_, fun {I H} {_ _} {_ _} i x H' b E' hx hy => ?_, fun {_ _} {_ _} {_ _} i E' hi => ?_⟩⟩
  · obtain ⟨a', vs', e', hq', pr'⟩ := E'.topR
    cases e'
    have hl : vs'.length = xs.l.length := Paired.length pr'
    rw [enumL_len] at hi
    exact ⟨vs', vs'[i]'(by omega), same_seqT E'.same hq', List.getElem?_eq_getElem (by omega)⟩
  · obtain ⟨a', vs', e', hq', pr'⟩ := E'.topR
    cases e'
    obtain ⟨T, y, rfl, hT, rfl, hy⟩ := hy
    obtain ⟨hx1, hx2⟩ := enumL_at hx
    exact enum_new E'.same hT hx2 (paired_at pr' (hy _ (same_seqT E'.same hq')) hx1)
  · obtain ⟨a', vs', e', hq', pr'⟩ := E'.topR
    cases e'
    have hl : vs'.length = xs.l.length := Paired.length pr'
    rw [enumL_len] at hi
    exact ⟨vs', same_seqT E'.same hq', by omega⟩
/-- [a, *xs] -/
theorem uStar {A : List V → Hp → Prop} (h : te σ H fun x H1 => ∃ p xs, x = V.ref p ∧ (SqT K H1 p xs ∨ SqL K H1 p xs) ∧ ta σ H1 fun ys H2 => A (xs ++ ys) H2) : StX.tStar K te ta σ H A := h
theorem star_of {α : Type} [Rep α] {x : α} {ys : List α} {v1 v2 : V} {k : List α → Res ω} (E : Env K I H σ Γ (some v2 :: some v1 :: ρ) (.im ys :: .im x :: Θ)) (h : wp ((lCat [x] ys).bind k) P X)
    (next : ∀ zs vs, Paired (fun v x => Rep.rp K I v x) vs zs → wp (k zs) P X → ∀ p, H p = none → Q (.ref p) (upd H p (.lst vs))) :
    ∃ p xs, v2 = V.ref p ∧ (SqT K H p xs ∨ SqL K H p xs) ∧ tNil σ H fun zs H2 => LsG (v1 :: (xs ++ zs)) H2 Q := by
  obtain ⟨p, vs, e, hq, pr⟩ := E.topR
  have r1 := E.pop.topR
  have hl : vs.length = ys.length := Paired.length pr
  unfold lCat at h
  rw [clo_eq] at h
  by_cases hz : [x].length + ys.length ≤ line
  · rw [if_pos hz] at h
    refine ⟨p, vs, e, .inr (SqL.of (E.same _ _ hq)), ?_⟩
    show LsG (v1 :: (vs ++ [])) H Q
    rw [List.append_nil]
    refine ⟨line_of ?_, next _ _ (.cons r1 pr) h⟩
    rw [List.length_cons, hl]
    simp at hz
    omega
  · rw [if_neg hz] at h
    exact h.elim
theorem st_starO {α : Type} [Rep α] {x : α} {ys : List α} {v1 v2 : V} {k : List α → Res ω} (E : Env K I H σ Γ (some v2 :: some v1 :: ρ) (.im ys :: .im x :: Θ)) (h : wp ((lCat [x] ys).bind k) P X)
    (next : ∀ zs H' v, Env K I H' σ Γ (some v :: ρ) (.own zs :: Θ) → wp (k zs) P X → Q v H') : ∃ p xs, v2 = V.ref p ∧ (SqT K H p xs ∨ SqL K H p xs) ∧ tNil σ H fun zs H2 => LsG (v1 :: (xs ++ zs)) H2 Q :=
  star_of E h fun zs vs pr h => st_newO E.pop.pop pr fun H' v E => next zs H' v E h
theorem st_starI {α : Type} [Rep α] {x : α} {ys : List α} {v1 v2 : V} {k : List α → Res ω} (E : Env K I H σ Γ (some v2 :: some v1 :: ρ) (.im ys :: .im x :: Θ)) (h : wp ((lCat [x] ys).bind k) P X)
    (next : ∀ zs I' H' v, Env K I' H' σ Γ (some v :: ρ) (.im zs :: Θ) → wp (k zs) P X → Q v H') : ∃ p xs, v2 = V.ref p ∧ (SqT K H p xs ∨ SqL K H p xs) ∧ tNil σ H fun zs H2 => LsG (v1 :: (xs ++ zs)) H2 Q :=
  star_of E h fun zs vs pr h => st_newI E.pop.pop pr fun I' H' v E => next zs I' H' v E h
/-- if xs -/
theorem ht_truL {α : Type} [Rep α] {xs : List α} (hΓ : Γ[j]? = some (.im xs)) : HT K (tTrq K (tVar j)) Γ (.ok (!xs.isEmpty)) := .mk fun X Q E q => by
  obtain ⟨a, vs, hs, ha, p⟩ := E.listAt hΓ
  have hl : vs.length = xs.length := Paired.length p
  have e : vs.isEmpty = xs.isEmpty := by cases vs <;> cases xs <;> simp_all
  exact ⟨_, hs, _, .inl ⟨vs, SqL.of ha, rfl⟩, by rw [e]; exact q⟩
theorem ht_truO {α : Type} [Rep α] {xs : List α} (hΓ : Γ[j]? = some (.own xs pn)) : HT K (tTrq K (tVar j)) Γ (.ok (!xs.isEmpty)) := .mk fun X Q E q => by
  obtain ⟨a, vs, hs, ha, p⟩ := E.ownAt' hΓ
  have hl : vs.length = xs.length := Paired.length p
  have e : vs.isEmpty = xs.isEmpty := by cases vs <;> cases xs <;> simp_all
  exact ⟨_, hs, _, .inl ⟨vs, SqL.of ha, rfl⟩, by rw [e]; exact q⟩
end
end M
namespace M
open PySem PySem.Spec PyProof.Rows L2
/-! ### owned lists of owned lists -/
structure Mat (α : Type) where
  rows : List (List α)
def RowsO {α : Type} [Rep α] (K : PySem.W.Frag) (I H : Hp) : List Addr → List V → List (List α) → Prop
  | [], [], [] => True
  | p :: ps, v :: vs, r :: rs => (v = .ref p ∧ ∃ ws, H p = some (.lst ws) ∧ Paired (fun v x => Rep.rp K I v x) ws r) ∧ RowsO K I H ps vs rs
  | _, _, _ => False
theorem RowsO.mono {α : Type} [Rep α] {K : PySem.W.Frag} {I I' H H' : Hp} (e : Same I I') : ∀ {ps : List Addr} {vs : List V} {rs : List (List α)}, (∀ b ∈ ps, H' b = H b) → RowsO K I H ps vs rs → RowsO K I' H' ps vs rs
  | [], [], [], _, _ => trivial
  | p :: ps, v :: vs, r :: rs, k, h => by
    obtain ⟨⟨e1, ws, h1, q⟩, h2⟩ := h
    exact ⟨⟨e1, ws, by rw [k p List.mem_cons_self]; exact h1, Paired.monoR (fun _ _ z => Rep.mono e z) q⟩, RowsO.mono e (fun b hb => k b (List.mem_cons_of_mem _ hb)) h2⟩
  | [], [], _ :: _, _, h => h.elim
  | [], _ :: _, _, _, h => h.elim
  | _ :: _, [], _, _, h => h.elim
  | _ :: _, _ :: _, [], _, h => h.elim
instance ownMat {α : Type} [Rep α] : Own (Mat α) where
  ow K fp I H v m := ∃ p ps vs, v = .ref p ∧ fp = p :: ps ∧ H p = some (.lst vs) ∧ RowsO K I H ps vs m.rows
  mono := fun e k ⟨p, ps, vs, e1, e2, h, q⟩ => ⟨p, ps, vs, e1, e2, by subst e2; rw [k p (by simp)]; exact h, by
    subst e2
    exact RowsO.mono e (fun b hb => k b (List.mem_cons_of_mem _ hb)) q⟩
section
variable {α : Type} [Rep α] {K : PySem.W.Frag} {I H I' H' : Hp} {es : List Ent} {o : Option V} {v : V} {pn : Option V}
theorem RowsO.len : ∀ {ps : List Addr} {vs : List V} {rs : List (List α)}, RowsO K I H ps vs rs → vs.length = rs.length ∧ ps.length = rs.length
  | [], [], [], _ => ⟨rfl, rfl⟩
  | p :: ps, v :: vs, r :: rs, h => by
    obtain ⟨a, b⟩ := RowsO.len h.2
    exact ⟨by simp [a], by simp [b]⟩
  | [], [], _ :: _, h => h.elim
  | [], _ :: _, _, h => h.elim
  | _ :: _, [], _, h => h.elim
  | _ :: _, _ :: _, [], h => h.elim
theorem RowsO.at : ∀ {ps : List Addr} {vs : List V} {rs : List (List α)} {i : Nat} {r : List α}, RowsO K I H ps vs rs → rs[i]? = some r → ∃ p ws, ps[i]? = some p ∧ vs[i]? = some (.ref p) ∧ H p = some (.lst ws) ∧ Paired (fun v x => Rep.rp K I v x) ws r
  | [], [], [], i, r, _, e => by simp at e
  | p :: ps, v :: vs, r0 :: rs, 0, r, h, e => by
    obtain ⟨⟨e1, ws, h1, q⟩, _⟩ := h
    have : r0 = r := by simpa using e
    subst this
    exact ⟨p, ws, rfl, by rw [e1]; rfl, h1, q⟩
  | p :: ps, v :: vs, r0 :: rs, i + 1, r, h, e => by
    obtain ⟨q, ws, a, b, c, d⟩ := RowsO.at h.2 (show rs[i]? = some r by simpa using e)
    exact ⟨q, ws, by simpa using a, by simpa using b, c, d⟩
  | [], [], _ :: _, _, _, h, _ => h.elim
  | [], _ :: _, _, _, _, h, _ => h.elim
  | _ :: _, [], _, _, _, h, _ => h.elim
  | _ :: _, _ :: _, [], _, _, h, _ => h.elim
theorem RowsO.set : ∀ {ps : List Addr} {vs : List V} {rs : List (List α)} {i : Nat} {p : Addr} {ws : List V} {r : List α}, ps.Nodup → RowsO K I H ps vs rs → ps[i]? = some p → Paired (fun v x => Rep.rp K I v x) ws r → RowsO K I (upd H p (.lst ws)) ps vs (rs.set i r)
  | [], [], [], i, p, ws, r, _, _, e, _ => by simp at e
  | p0 :: ps, v :: vs, r0 :: rs, 0, p, ws, r, nd, h, e, q => by
    have : p0 = p := by simpa using e
    subst this
    refine ⟨⟨h.1.1, ws, upd_same, q⟩, RowsO.mono (Same.refl _) (fun b hb => upd_ne fun z => ?_) h.2⟩
    subst z
    exact (List.nodup_cons.mp nd).1 hb
  | p0 :: ps, v :: vs, r0 :: rs, i + 1, p, ws, r, nd, h, e, q => by
    have e2 : ps[i]? = some p := by simpa using e
    have hm : p ∈ ps := List.mem_of_getElem? e2
    refine ⟨?_, RowsO.set (List.nodup_cons.mp nd).2 h.2 e2 q⟩
    obtain ⟨e1, ws0, h1, q0⟩ := h.1
    exact ⟨e1, ws0, by rw [upd_ne fun z => ?_]; exact h1; exact (List.nodup_cons.mp nd).1 (z ▸ hm), q0⟩
  | [], [], _ :: _, _, _, _, _, _, h, _, _ => h.elim
  | [], _ :: _, _, _, _, _, _, _, h, _, _ => h.elim
  | _ :: _, [], _, _, _, _, _, _, h, _, _ => h.elim
  | _ :: _, _ :: _, [], _, _, _, _, _, h, _, _ => h.elim
theorem RowsO.snoc : ∀ {ps : List Addr} {vs : List V} {rs : List (List α)} {p : Addr} {ws : List V} {r : List α}, RowsO K I H ps vs rs → H p = some (.lst ws) → Paired (fun v x => Rep.rp K I v x) ws r → RowsO K I H (ps ++ [p]) (vs ++ [.ref p]) (rs ++ [r])
  | [], [], [], p, ws, r, _, e, q => ⟨⟨rfl, ws, e, q⟩, trivial⟩
  | p0 :: ps, v :: vs, r0 :: rs, p, ws, r, h, e, q => ⟨h.1, RowsO.snoc h.2 e q⟩
  | [], [], _ :: _, _, _, _, h, _, _ => h.elim
  | [], _ :: _, _, _, _, _, h, _, _ => h.elim
  | _ :: _, [], _, _, _, _, h, _, _ => h.elim
  | _ :: _, _ :: _, [], _, _, _, h, _, _ => h.elim
/-- an owned list of lists: a row of it, and what becomes of it -/
theorem EnvL.ownM {m : Mat α} (h : EnvL K I H ((o, .own m pn) :: es)) : ∃ p vs, o = some (.ref p) ∧ H p = some (.lst vs) ∧ vs.length = m.rows.length ∧
    ∀ (i : Nat) (r : List α), m.rows[i]? = some r → ∃ q ws, vs[i]? = some (.ref q) ∧ H q = some (.lst ws) ∧ Paired (fun v x => Rep.rp K I v x) ws r ∧
      ∀ (ws' : List V) (r' : List α), Paired (fun v x => Rep.rp K I v x) ws' r' → EnvL K I (upd H q (.lst ws')) ((o, .own (Mat.mk (m.rows.set i r')) pn) :: es) := by
  obtain ⟨s, fs, h1, h2, h3⟩ := id h
  cases fs with
  | nil => exact h1.elim
  | cons f fs =>
    obtain ⟨⟨v, e1, e0, p, ps, vs, e2, e3, hp, rr⟩, h1⟩ := h1
    dsimp only at e1
    subst e1 e2 e3
    rw [List.flatten_cons] at h2 h3
    have hn := List.nodup_append.mp h2
    have hn1 := List.nodup_cons.mp hn.1
    refine ⟨p, vs, rfl, hp, rr.len.1, fun i r hr => ?_⟩
    obtain ⟨q, ws, a, b, c, d⟩ := rr.at hr
    have hq : q ∈ ps := List.mem_of_getElem? a
    have qI := (h3 q (List.mem_append_left _ (List.mem_cons_of_mem _ hq))).1
    have qp : p ≠ q := fun z => hn1.1 (z ▸ hq)
    have nf : ∀ x ∈ fs.flatten, x ≠ q := fun x hx z => hn.2.2 q (List.mem_cons_of_mem _ hq) x hx z.symm
    refine ⟨q, ws, b, c, d, fun ws' r' pr => ⟨fun x u e => ?_, (p :: ps) :: fs, ⟨⟨.ref p, rfl, e0, p, ps, vs, rfl, rfl, by rw [upd_ne qp]; exact hp, RowsO.set hn1.2 rr a pr⟩, Ents.mono (Same.refl _) (fun x hx => upd_ne (nf x hx)) h1⟩, by rw [List.flatten_cons]; exact h2, fun x hx => ?_⟩⟩
    · rw [upd_ne (ne_of_none e qI)]
      exact s x u e
    · rw [List.flatten_cons] at hx
      refine ⟨(h3 x hx).1, ?_⟩
      by_cases z : x = q
      · subst z; rw [upd_same]; exact fun y => nomatch y
      · rw [upd_ne z]; exact (h3 x hx).2
/-- an empty one -/
theorem EnvL.newM {p : Addr} (h : EnvL K I H es) (hp : H p = none) : EnvL K I (upd H p (.lst [])) ((some (.ref p), .own (Mat.mk ([] : List (List α)))) :: es) := by
  obtain ⟨s, fs, h1, h2, h3⟩ := h.newL (α := α) (vs := []) (xs := []) hp .nil
  cases fs with
  | nil => exact h1.elim
  | cons f fs =>
    obtain ⟨⟨v, e1, e0, q, vs, e2, e3, hq, _⟩, h1⟩ := h1
    have e1 : some (V.ref p) = some v := e1
    cases e1
    cases e2
    subst e3
    rw [upd_same] at hq
    cases hq
    exact ⟨s, [p] :: fs, ⟨⟨.ref p, rfl, e0, p, [], [], rfl, rfl, upd_same, trivial⟩, h1⟩, h2, h3⟩
/-- one row more -/
theorem EnvL.snocM {m : Mat α} {r : List α} {pn2 : Option V} {p : Addr} {vs : List V} (h : EnvL K I H ((some (.ref p), .own m pn) :: (some v, .own r pn2) :: es)) (hp : H p = some (.lst vs)) : EnvL K I (upd H p (.lst (vs ++ [v]))) ((some (.ref p), .own (Mat.mk (m.rows ++ [r])) pn) :: es) := by
  obtain ⟨s, fs, h1, h2, h3⟩ := id h
  cases fs with
  | nil => exact h1.elim
  | cons f fs =>
    cases fs with
    | nil => exact h1.2.elim
    | cons g fs =>
      obtain ⟨⟨v0, e1, e0, p0, ps, vs0, e2, e3, hp0, rr⟩, ⟨v1, d1, _, q, ws, d2, d3, hq, pr⟩, h1⟩ := h1
      have e1 : some (V.ref p) = some v0 := e1
      cases e1
      cases e2
      have d1 : some v = some v1 := d1
      cases d1
      subst d2 e3 d3
      rw [hp] at hp0
      cases hp0
      rw [List.flatten_cons, List.flatten_cons] at h2 h3
      have hn := List.nodup_append.mp h2
      have hn1 := List.nodup_cons.mp hn.1
      have hn2 := List.nodup_append.mp hn.2.1
      have pI := (h3 p (by simp)).1
      have np : ∀ x ∈ fs.flatten, x ≠ p := fun x hx z => hn.2.2 p (by simp) x (List.mem_append_right _ hx) z.symm
      have pq : q ≠ p := fun z => hn.2.2 p (by simp) q (by simp) z.symm
      refine ⟨fun x u e => ?_, (p :: (ps ++ [q])) :: fs, ⟨⟨.ref p, rfl, e0, p, ps ++ [q], vs ++ [.ref q], rfl, rfl, upd_same, RowsO.snoc (RowsO.mono (Same.refl _) (fun b hb => upd_ne (show b ≠ p from fun z => hn1.1 (z ▸ hb))) rr) (by rw [upd_ne pq]; exact hq) pr⟩, Ents.mono (Same.refl _) (fun x hx => upd_ne (np x hx)) h1⟩, ?_, fun x hx => ?_⟩
      · rw [upd_ne (ne_of_none e pI)]
        exact s x u e
      · rw [List.flatten_cons]
        have e : p :: (ps ++ [q]) ++ fs.flatten = (p :: ps) ++ ([q] ++ fs.flatten) := by simp
        rw [e]
        exact h2
      · have hx2 : x ∈ (p :: ps) ++ ([q] ++ fs.flatten) := by
          rw [List.flatten_cons] at hx
          have e : p :: (ps ++ [q]) ++ fs.flatten = (p :: ps) ++ ([q] ++ fs.flatten) := by simp
          rw [e] at hx
          exact hx
        refine ⟨(h3 x hx2).1, ?_⟩
        by_cases z : x = p
        · subst z; rw [upd_same]; exact fun y => nomatch y
        · rw [upd_ne z]; exact (h3 x hx2).2
end
end M
namespace M
open PySem PySem.Spec PyProof.Rows L2
noncomputable def lcO {α β : Type} (f : α → Res (List β)) (xs : List α) : Res (Mat β) := clo (if xs.length ≤ line then (mapR f xs).bind fun ys => .ok ⟨ys⟩ else .bad)
def mapS {α β S : Type} (f : α → S → Res (β × S)) : List α → S → Res (List β × S)
  | [], s => .ok ([], s)
  | x :: xs, s => (f x s).bind fun y => (mapS f xs y.2).bind fun z => .ok (y.1 :: z.1, z.2)
noncomputable def lcS {α β S : Type} (f : α → S → Res (β × S)) (xs : List α) (s : S) : Res (List β × S) := clo (if xs.length ≤ line then mapS f xs s else .bad)
section
variable {K : PySem.W.Frag} {mg : Str → Option Value} {I H I' H' : Hp} {σ σ' ρ : List (Option V)} {Γ Γ' Θ : List Cell} {i j n : Nat} {v v1 v2 v3 : V} {c c1 c2 : Cell} {o : Option V} {te tl ti : TE} {ta : TA} {tt : TT} {t u : TS} {dn db dc : L2.St → Hp → Prop} {dr : VK} {Q : VK} {W : WX}
variable {ω : Type} {P : ω → Prop} {X : Exn → Prop} {α β γ δ : Type}
theorem mapS_at {S : Type} {f : α → S → Res (β × S)} {xs : List α} {s : S} {x : α} (hx : xs[i]? = some x) : mapS f (xs.drop i) s = (f x s).bind fun y => (mapS f (xs.drop (i + 1)) y.2).bind fun z => .ok (y.1 :: z.1, z.2) := by
  obtain ⟨hi, e⟩ := List.getElem?_eq_some_iff.mp hx
  rw [List.drop_eq_getElem_cons hi, e]
  rfl
theorem st_lcmM [Rep α] [Rep β] {xs : List α} {J : It} {ρe : List (Option V)} {Θe : List Cell} {f : α → Res (List β)} {k : Mat β → Res ω} (hJ : Feeds K J xs ρe Θe)
    (E : Env K I H σ Γ (ρe ++ ρ) (Θe ++ Θ)) (hΓ : Γ[i]? = some c) (h : wp ((lcO f xs).bind k) P X)
    (next : ∀ ys I' H' v, Env K I' H' σ Γ (some v :: ρ) (.own ys :: Θ) → wp (k ys) P X → Q v H')
    (elt : ∀ x I' H' σ' ρ' Θ' (Qe : VK), Env K I' H' σ' (Γ.set i (.im x)) ρ' Θ' → wp (f x) (fun z => ∀ I'' H'' w, Env K I'' H'' σ' (Γ.set i (.im x)) (some w :: ρ') (.own z :: Θ') → Qe w H'') X → te σ' H' Qe) :
    LcG J (gName i) tYes te [i] σ H Q := by
  intro D hD
  have hi : i < Γ.length := (List.getElem?_eq_some_iff.mp hΓ).1
  unfold lcO at h
  rw [clo_eq] at h
  by_cases hz : xs.length ≤ line
  case neg =>
    rw [if_neg hz] at h
    exact h.elim
  rw [if_pos hz, Res.bind_assoc] at h
  obtain ⟨o, ho, E1⟩ := E.aside hΓ
  have E2 := E1.toStack (E1.2.2.newM (α := β) hD)
  -- the state: the list so far on top
  refine ⟨fun n m H' => m = xs.length - n ∧ n ≤ xs.length ∧ ∃ (acc : Mat β) (I' : Hp), acc.rows.length ≤ n ∧ Env K I' H' (σ.set i none) (Γ.set i .any) (some (.ref D) :: o :: (ρe ++ ρ)) (.own acc :: c :: (Θe ++ Θ)) ∧
    wp ((mapR f (xs.drop n)).bind fun ys => k ⟨acc.rows ++ ys⟩) P X, ⟨xs.length, by simp, Nat.zero_le _, ⟨[]⟩, I, Nat.le_refl _, E2, h⟩, ?_⟩
  rintro n m H' ⟨rfl, hn, acc, I', ha, E', h'⟩
  -- the walk's entries, seen
  have EJ : Env K I' H' (σ.set i none) (Γ.set i .any) (ρe ++ (some (.ref D) :: o :: ρ)) (Θe ++ (.own acc :: c :: Θ)) := by
    refine ⟨E'.1, ?_, E'.2.2.perm ((List.Perm.refl _).append ?_)⟩
    · have := E'.2.1
      have l := hJ.len
      simp only [List.length_append, List.length_cons] at this ⊢
      omega
    · have l := hJ.len
      show (((some (V.ref D), Cell.own acc) :: (o, c) :: ((ρe ++ ρ).zip (Θe ++ Θ)))).Perm _
      rw [List.zip_append l, List.zip_append l]
      show ((some (V.ref D), Cell.own acc) :: (o, c) :: (ρe.zip Θe ++ ρ.zip Θ)).Perm (ρe.zip Θe ++ ((some (V.ref D), Cell.own acc) :: (o, c) :: ρ.zip Θ))
      exact ((List.perm_middle.symm).cons _ |>.trans List.perm_middle.symm)
  by_cases hlt : n < xs.length
  · have hx : xs[n]? = some xs[n] := List.getElem?_eq_getElem hlt
    rw [mapR_at hx, Res.bind_assoc] at h'
    refine .inr ⟨hJ.go n EJ hlt, fun H2 => ∃ (acc : Mat β) (I' : Hp), acc.rows.length ≤ n + 1 ∧ Env K I' H2 (σ.set i none) (Γ.set i .any) (some (.ref D) :: o :: (ρe ++ ρ)) (.own acc :: c :: (Θe ++ Θ)) ∧
      wp ((mapR f (xs.drop (n + 1))).bind fun ys => k ⟨acc.rows ++ ys⟩) P X, fun H2 z => ⟨xs.length - (n + 1), by omega, rfl, hlt, z⟩, fun y H2 hyl => ?_⟩
    obtain ⟨I2, g2, ry⟩ := hJ.yld n y H2 _ EJ hx hyl
    have E3 := ((E'.grow g2).push ry).store (i := i) (Γ' := Γ.set i (.im xs[n])) (by simpa using hi) (by rw [List.set_set])
    refine ⟨by show ((wipe σ [i]).set i (some y)).set i none = wipe σ [i]; rw [wipe1, List.set_set, List.set_set], ?_⟩
    have back : ∀ {I3 H3 : Hp} {ρ' : List (Option V)} {Θ' : List Cell}, Env K I3 H3 ((wipe σ [i]).set i (some y)) (Γ.set i (.im xs[n])) ρ' Θ' → Env K I3 H3 (σ.set i none) (Γ.set i .any) ρ' Θ' := by
      intro I3 H3 ρ' Θ' Z
      have z1 := Z.weak (wkAny (i := i))
      rw [List.set_set] at z1
      have z2 := Env.anyOf z1 hi
      rw [wipe1, List.set_set, List.set_set] at z2
      exact z2
    refine elt xs[n] I2 H2 _ _ _ _ E3 (wpb h' fun z h2 I4 H4 w E5 => ?_)
    rw [Res.bind_assoc] at h2
    have E6 := back E5
    have u0 := E6.unstack
    have u1 : EnvL K I4 H4 ((some (V.ref D), .own acc) :: (some w, .own z) :: ((σ.set i none).zip (Γ.set i .any) ++ (o :: (ρe ++ ρ)).zip (c :: (Θe ++ Θ)))) := by
      refine u0.perm ?_
      exact (List.Perm.cons _ List.perm_middle).trans (.swap _ _ _)
    obtain ⟨p, vs, e1, hp, hl, _⟩ := u1.ownM
    cases e1
    refine ⟨vs, hp, by rw [hl, ← line_eq]; omega, ⟨acc.rows ++ [z]⟩, I4, by show (acc.rows ++ [z]).length ≤ n + 1; rw [List.length_append]; simp; exact ha, ?_, ?_⟩
    · exact (Env.pop (Env.pop E6)).toStack (u1.snocM hp)
    · have e : (fun ys => k ⟨acc.rows ++ z :: ys⟩) = fun ys => k ⟨(acc.rows ++ [z]) ++ ys⟩ := by
        funext ys
        rw [List.append_assoc]
        rfl
      rw [← e]
      exact h2
  · have e : n = xs.length := by omega
    subst e
    rw [List.drop_eq_nil_of_le (Nat.le_refl _)] at h'
    have h' : wp (k ⟨acc.rows ++ []⟩) P X := h'
    rw [List.append_nil] at h'
    refine .inl ⟨hJ.stop _ EJ (Nat.le_refl _), next acc I' H' _ ?_ h'⟩
    -- the entry back, the walk's entries gone
    have E7 : Env K I' H' (σ.set i none) (Γ.set i .any) (ρe ++ (o :: some (.ref D) :: ρ)) (Θe ++ (c :: .own acc :: Θ)) := by
      refine ⟨EJ.1, by have := EJ.2.1; simp only [List.length_append, List.length_cons] at this ⊢; omega, EJ.2.2.perm ((List.Perm.refl _).append ?_)⟩
      rw [List.zip_append hJ.len, List.zip_append hJ.len]
      exact (List.Perm.refl _).append (.swap _ _ _)
    exact (E7.drops hJ.len).again ho hΓ
theorem st_lcs {S : Type} [Rep α] [Rep β] {xs : List α} {J : It} {ρe : List (Option V)} {Θe : List Cell} {f : α → S → Res (β × S)} {k : List β × S → Res ω} {s0 : S} (G : S → List Cell) (hJ : Feeds K J xs ρe Θe)
    (E : Env K I H σ (G s0) (ρe ++ ρ) (Θe ++ Θ)) (hΓ : ∀ s, (G s)[i]? = some c) (h : wp ((lcS f xs s0).bind k) P X)
    (next : ∀ ys s I' H' v, Env K I' H' σ (G s) (some v :: ρ) (.own ys :: Θ) → wp (k (ys, s)) P X → Q v H')
    (elt : ∀ x s I' H' σ' ρ' Θ' (Qe : VK), Env K I' H' σ' ((G s).set i (.im x)) ρ' Θ' → wp (f x s) (fun z => ∀ I'' H'' w, Env K I'' H'' σ' ((G z.2).set i (.im x)) (some w :: ρ') (.im z.1 :: Θ') → Qe w H'') X → te σ' H' Qe) :
    LcG J (gName i) tYes te [i] σ H Q := by
  intro D hD
  have hi : ∀ s, i < (G s).length := fun s => (List.getElem?_eq_some_iff.mp (hΓ s)).1
  unfold lcS at h
  rw [clo_eq] at h
  by_cases hz : xs.length ≤ line
  case neg =>
    rw [if_neg hz] at h
    exact h.elim
  rw [if_pos hz] at h
  obtain ⟨o, ho, E1⟩ := E.aside (hΓ s0)
  have E2 := E1.newL (α := β) (vs := []) (xs := []) hD .nil
  -- the state: the list so far on top
  refine ⟨fun n m H' => m = xs.length - n ∧ n ≤ xs.length ∧ ∃ (acc : List β) (s : S) (I' : Hp), acc.length ≤ n ∧ Env K I' H' (σ.set i none) ((G s).set i .any) (some (.ref D) :: o :: (ρe ++ ρ)) (.own acc :: c :: (Θe ++ Θ)) ∧
    wp ((mapS f (xs.drop n) s).bind fun z => k (acc ++ z.1, z.2)) P X, ⟨xs.length, by simp, Nat.zero_le _, [], s0, I, Nat.le_refl _, E2, h⟩, ?_⟩
  rintro n m H' ⟨rfl, hn, acc, s1, I', ha, E', h'⟩
  -- the walk's entries, seen
  have EJ : Env K I' H' (σ.set i none) ((G s1).set i .any) (ρe ++ (some (.ref D) :: o :: ρ)) (Θe ++ (.own acc :: c :: Θ)) := by
    refine ⟨E'.1, ?_, E'.2.2.perm ((List.Perm.refl _).append ?_)⟩
    · have := E'.2.1
      have l := hJ.len
      simp only [List.length_append, List.length_cons] at this ⊢
      omega
    · have l := hJ.len
      show (((some (V.ref D), Cell.own acc) :: (o, c) :: ((ρe ++ ρ).zip (Θe ++ Θ)))).Perm _
      rw [List.zip_append l, List.zip_append l]
      show ((some (V.ref D), Cell.own acc) :: (o, c) :: (ρe.zip Θe ++ ρ.zip Θ)).Perm (ρe.zip Θe ++ ((some (V.ref D), Cell.own acc) :: (o, c) :: ρ.zip Θ))
      exact ((List.perm_middle.symm).cons _ |>.trans List.perm_middle.symm)
  by_cases hlt : n < xs.length
  · have hx : xs[n]? = some xs[n] := List.getElem?_eq_getElem hlt
    rw [mapS_at hx, Res.bind_assoc] at h'
    refine .inr ⟨hJ.go n EJ hlt, fun H2 => ∃ (acc : List β) (s : S) (I' : Hp), acc.length ≤ n + 1 ∧ Env K I' H2 (σ.set i none) ((G s).set i .any) (some (.ref D) :: o :: (ρe ++ ρ)) (.own acc :: c :: (Θe ++ Θ)) ∧
      wp ((mapS f (xs.drop (n + 1)) s).bind fun z => k (acc ++ z.1, z.2)) P X, fun H2 z => ⟨xs.length - (n + 1), by omega, rfl, hlt, z⟩, fun y H2 hyl => ?_⟩
    obtain ⟨I2, g2, ry⟩ := hJ.yld n y H2 _ EJ hx hyl
    have E3 := ((E'.grow g2).push ry).store (i := i) (Γ' := (G s1).set i (.im xs[n])) (by simpa using hi s1) (by rw [List.set_set])
    refine ⟨by show ((wipe σ [i]).set i (some y)).set i none = wipe σ [i]; rw [wipe1, List.set_set, List.set_set], ?_⟩
    have back : ∀ {s : S} {I3 H3 : Hp} {ρ' : List (Option V)} {Θ' : List Cell}, Env K I3 H3 ((wipe σ [i]).set i (some y)) ((G s).set i (.im xs[n])) ρ' Θ' → Env K I3 H3 (σ.set i none) ((G s).set i .any) ρ' Θ' := by
      intro s I3 H3 ρ' Θ' Z
      have z1 := Z.weak (wkAny (i := i))
      rw [List.set_set] at z1
      have z2 := Env.anyOf z1 (hi s)
      rw [wipe1, List.set_set, List.set_set] at z2
      exact z2
    refine elt xs[n] s1 I2 H2 _ _ _ _ E3 (wpb h' fun z h2 I4 H4 w E5 => ?_)
    rw [Res.bind_assoc] at h2
    have E6 := back E5
    have rz := E6.topR
    obtain ⟨p, vs, e1, hp, _, q, ch, _⟩ := E6.pop.unstack.ownL
    cases e1
    have hlen : vs.length = acc.length := Paired.length q
    refine ⟨vs, hp, by rw [hlen, ← line_eq]; omega, acc ++ [z.1], z.2, I4, by rw [List.length_append]; simp; exact ha, ?_, ?_⟩
    · exact E6.pop.pop.toStack (ch (Grow.refl E6.same) _ _ (paired_app q (.cons rz .nil)))
    · have e : (fun (y : List β × S) => k (acc ++ z.1 :: y.1, y.2)) = fun y => k ((acc ++ [z.1]) ++ y.1, y.2) := by
        funext y
        rw [List.append_assoc]
        rfl
      rw [← e]
      exact h2
  · have e : n = xs.length := by omega
    subst e
    rw [List.drop_eq_nil_of_le (Nat.le_refl _)] at h'
    have h' : wp (k (acc ++ [], s1)) P X := h'
    rw [List.append_nil] at h'
    refine .inl ⟨hJ.stop _ EJ (Nat.le_refl _), next acc s1 I' H' _ ?_ h'⟩
    -- the entry back, the walk's entries gone
    have E7 : Env K I' H' (σ.set i none) ((G s1).set i .any) (ρe ++ (o :: some (.ref D) :: ρ)) (Θe ++ (c :: .own acc :: Θ)) := by
      refine ⟨EJ.1, by have := EJ.2.1; simp only [List.length_append, List.length_cons] at this ⊢; omega, EJ.2.2.perm ((List.Perm.refl _).append ?_)⟩
      rw [List.zip_append hJ.len, List.zip_append hJ.len]
      exact (List.Perm.refl _).append (.swap _ _ _)
    exact (E7.drops hJ.len).again ho (hΓ s1)

/-! ### items of owned lists of lists -/
def mSet {α : Type} (m : Mat α) (i j : Int) (y : α) : Res (Mat α) := (lGet m.rows i).bind fun r => (lSet r j y).bind fun r' => (lSet m.rows i r').bind fun rows => .ok ⟨rows⟩
def mGet {α : Type} (m : Mat α) (i j : Int) : Res α := (lGet m.rows i).bind fun r => lGet r j
def mPut {α : Type} (m : Mat α) (i : Int) (r : List α) (j : Int) (y : α) : Res (Mat α) := (lSet r j y).bind fun r' => (lSet m.rows i r').bind fun rows => .ok ⟨rows⟩
noncomputable def mApp {α : Type} (m : Mat α) (i : Int) (y : α) : Res (Mat α) := (lGet m.rows i).bind fun r => (lApp r y).bind fun r' => (lSet m.rows i r').bind fun rows => .ok ⟨rows⟩
theorem Env.matAt [Rep α] {m : Mat α} {pn : Option V} (E : Env K I H σ Γ ρ Θ) (h : Γ[i]? = some (.own m pn)) : ∃ p vs, σ[i]? = some (some (.ref p)) ∧ H p = some (.lst vs) ∧ vs.length = m.rows.length ∧
    ∀ (j : Nat) (r : List α), m.rows[j]? = some r → ∃ q ws, vs[j]? = some (.ref q) ∧ H q = some (.lst ws) ∧ Paired (fun v x => Rep.rp K I v x) ws r ∧
      ∀ (ws' : List V) (r' : List α), Paired (fun v x => Rep.rp K I v x) ws' r' → Env K I (upd H q (.lst ws')) σ (Γ.set i (.own (Mat.mk (m.rows.set j r')) pn)) ρ Θ := by
  obtain ⟨o, r, ho, e, back⟩ := E.pick h
  obtain ⟨p, vs, e1, hp, hl, at_⟩ := e.ownM
  subst e1
  have ss : σ.set i (some (V.ref p)) = σ := set_same ho
  refine ⟨p, vs, ho, hp, hl, fun j r hr => ?_⟩
  obtain ⟨q, ws, a, b, c, ch⟩ := at_ j r hr
  refine ⟨q, ws, a, b, c, fun ws' r' pr => ?_⟩
  have z := back _ _ (ch ws' r' pr)
  rw [ss] at z
  exact z
theorem atI_ix {α : Type} {xs : List α} {i : Int} {x : α} (h : atI xs i = some x) : ∃ n, ixN xs.length i = some n ∧ xs[n]? = some x := by
  unfold atI at h
  cases e : ixN xs.length i with
  | none => rw [e] at h; cases h
  | some n => rw [e] at h; exact ⟨n, rfl, h⟩
theorem lSet_of {α : Type} {xs : List α} {i : Int} {n : Nat} {y : α} (h : ixN xs.length i = some n) : lSet xs i y = .ok (xs.set n y) := by unfold lSet; rw [h]
/-- marks[i][j] = e -/
theorem st_setM [Rep α] {m : Mat α} {y : α} {t1 t2 : TE} {m1 m2 : Res Int} {k : Mat α → Res ω} {Γ' : Mat α → List Cell} {pn : Option V} {dn : L2.St → Hp → Prop} (E : Env K I H σ Γ (some v :: ρ) (.im y :: Θ)) (hΓ : Γ[i]? = some (.own m pn)) (h1 : HF K t1 Γ m1) (h2 : HF K t2 Γ m2)
    (h : wp (m1.bind fun a => (lGet m.rows a).bind fun r => m2.bind fun b => (mPut m a r b y).bind k) P X) (hs : ∀ x, Γ.set i (.own x pn) = Γ' x) (next : ∀ ys H', Env K I H' σ (Γ' ys) ρ Θ → wp (k ys) P X → dn σ H') : gSub (tOp (rIxL K) (tVar i) t1) t2 rSetL v σ H dn := by
  obtain ⟨p, vs, hs1, hp, hl, at_⟩ := E.matAt hΓ
  refine ⟨_, hs1, h1.run X _ E (wpb h fun a h _ => ?_)⟩
  unfold lGet at h
  cases ea : atI m.rows a with
  | none => rw [ea] at h; exact h.elim
  | some r =>
    rw [ea, Res.bind_ok] at h
    obtain ⟨n, en, er⟩ := atI_ix ea
    obtain ⟨q, ws, e1, hq, pr, ch⟩ := at_ n r er
    refine ⟨p, vs, a, .ref q, rfl, rfl, SqL.of hp, ?_, ?_⟩
    · unfold atI
      rw [hl, en]
      exact e1
    · refine h2.run X _ E (wpb h fun b h _ => ?_)
      unfold mPut lSet at h
      cases eb : ixN r.length b with
      | none => rw [eb] at h; exact h.elim
      | some n2 =>
        rw [eb, Res.bind_ok, en, Res.bind_ok, Res.bind_ok] at h
        refine ⟨q, ws, b, n2, rfl, rfl, hq, by rw [Paired.length pr]; exact eb, ?_⟩
        have z := (ch _ _ (paired_set E.topR (k := n2) pr)).pop
        rw [hs] at z
        exact next _ _ z h
/-- marks[i][j] -/
theorem hf_mGet [Sca α] {m : Mat α} {pn : Option V} {t1 t2 : TE} {m1 m2 : Res Int} (hΓ : Γ[i]? = some (.own m pn)) (h1 : HF K t1 Γ m1) (h2 : HF K t2 Γ m2) : HF K (tOp (rIxL K) (tOp (rIxL K) (tVar i) t1) t2) Γ (m1.bind fun a => (lGet m.rows a).bind fun r => m2.bind fun b => lGet r b) := .mk fun X Q E q => by
  obtain ⟨p, vs, hs1, hp, hl, at_⟩ := E.matAt hΓ
  refine ⟨_, hs1, h1.run X _ E (wpb q fun a q _ => ?_)⟩
  unfold lGet at q
  cases ea : atI m.rows a with
  | none => rw [ea] at q; exact q.elim
  | some r =>
    rw [ea, Res.bind_ok] at q
    obtain ⟨n, en, er⟩ := atI_ix ea
    obtain ⟨w, ws, e1, hq, pr, ch⟩ := at_ n r er
    refine ⟨p, vs, a, .ref w, rfl, rfl, SqL.of hp, ?_, ?_⟩
    · unfold atI
      rw [hl, en]
      exact e1
    · refine h2.run X _ E (wpb q fun b q _ => ?_)
      cases eb : atI r b with
      | none => rw [eb] at q; exact q.elim
      | some x =>
        rw [eb] at q
        obtain ⟨u, e2, r2⟩ := atI_paired pr eb
        have r' : u = enc x ∧ okv x := r2
        refine ⟨w, ws, b, u, rfl, rfl, SqL.of hq, e2, ?_⟩
        rw [r'.1]
        exact q r'.2
end
end M
namespace M
open PySem PySem.Spec PyProof.Rows L2
/-- how many steps of `c` a range has -/
def stepN (a b c : Int) : Nat := (Builtin.Range.rangeSize a b c).toNat
def stepL (a b c : Int) : List Int := (List.range (stepN a b c)).map fun (k : Nat) => a + (k : Int) * c
open Classical in
noncomputable def rngS (a b c : Int) : Res (List Int) := clo (if c.natAbs < 1073741824 ∧ RgC a b c (stepN a b c) then .ok (stepL a b c) else .bad)
section
variable {K : PySem.W.Frag} {mg : Str → Option Value} {I H I' H' : Hp} {σ σ' ρ : List (Option V)} {Γ Γ' Θ : List Cell} {i j n : Nat} {v v1 v2 v3 : V} {c c1 c2 : Cell} {o : Option V} {te tl ti : TE} {ta : TA} {tt : TT} {t u : TS}
variable {ω : Type} {P : ω → Prop} {X : Exn → Prop} {α β γ δ : Type}
theorem it_rngc0 {R : It → Hp → Prop} {lo c : Int} {n : Nat} (next : ∀ J, Feeds K J ((List.range n).map fun (i : Nat) => lo + (i : Int) * c) [] [] → R J H) : R (Itc lo c n) H := by
  refine next _ ⟨rfl, fun i _ hi => (show i < n by simpa using hi), fun {I H} {_ _} {_ _} i x H' a E hx hy => ?_, fun i _ hi => (show n ≤ i by simpa using hi)⟩
  obtain ⟨rfl, rfl⟩ := hy
  refine ⟨I, Grow.refl E.same, ?_⟩
  have hi : i < n := by
    have := (List.getElem?_eq_some_iff.mp hx).1
    simpa using this
  have e : lo + (i : Int) * c = a := by
    rw [List.getElem?_map, List.getElem?_range hi] at hx
    exact Option.some.inj hx
  exact ⟨by rw [e]; rfl, trivial⟩
theorem it_rng3 {R : It → Hp → Prop} {t1 t2 t3 : TE} {m1 m2 m3 : Res Int} {k : List Int → Res ω} (E : Env K I H σ Γ ρ Θ) (h1 : HF K t1 Γ m1) (h2 : HF K t2 Γ m2) (h3 : HF K t3 Γ m3) (h : wp (m1.bind fun a => m2.bind fun b => m3.bind fun d => (rngS a b d).bind k) P X)
    (next : ∀ xs, wp (k xs) P X → ∀ J, Feeds K J xs [] [] → R J H) : iRng3 (tCons t1 (tCons t2 (tCons t3 tNil))) σ H R := h1.run X _ E (wpb h fun a h _ => h2.run X _ E (wpb h fun b h _ => h3.run X _ E (wpb h fun d h _ => by
  unfold rngS at h
  rw [clo_eq] at h
  by_cases hr : d.natAbs < 1073741824 ∧ RgC a b d (stepN a b d)
  · rw [if_pos hr] at h
    exact ⟨a, b, d, _, rfl, hr.2, it_rngc0 (next _ h)⟩
  · rw [if_neg hr] at h
    exact h.elim)))
end
/-- what a range of steps up holds -/
theorem stepN_up {a b c : Int} (hc : 0 < c) : stepN a b c = ((b - a + c - 1) / c).toNat := by
  unfold stepN Builtin.Range.rangeSize
  rw [if_pos (show c > 0 from hc)]
  by_cases h : a < b
  · rw [if_pos h]
    have : b - a + c - 1 = (b - a - 1) + 1 * c := by omega
    rw [this, Int.add_mul_ediv_right _ _ (by omega)]
  · rw [if_neg h]
    by_cases e : b - a + c - 1 < 0
    · have := Int.ediv_neg_of_neg_of_pos e hc
      omega
    · rw [Int.ediv_eq_zero_of_lt (by omega) (by omega)]
theorem mem_stepL_up {a b c x : Int} (hc : 0 < c) : x ∈ stepL a b c ↔ a ≤ x ∧ x < b ∧ ∃ k : Nat, x = a + (k : Int) * c := by
  unfold stepL
  rw [List.mem_map, stepN_up hc]
  constructor
  · rintro ⟨k, hk, rfl⟩
    rw [List.mem_range] at hk
    have h0 : (0 : Int) ≤ (k : Int) * c := Int.mul_nonneg (by omega) (by omega)
    refine ⟨by omega, ?_, k, rfl⟩
    have h1 : (k : Int) + 1 ≤ (b - a + c - 1) / c := by omega
    have h2 := (Int.le_ediv_iff_mul_le hc).mp h1
    have h3 : ((k : Int) + 1) * c = (k : Int) * c + c := by rw [Int.add_mul, Int.one_mul]
    omega
  · rintro ⟨h1, h2, k, rfl⟩
    refine ⟨k, ?_, rfl⟩
    rw [List.mem_range]
    have h3 : ((k : Int) + 1) * c = (k : Int) * c + c := by rw [Int.add_mul, Int.one_mul]
    have h4 : (k : Int) + 1 ≤ (b - a + c - 1) / c := (Int.le_ediv_iff_mul_le hc).mpr (by omega)
    omega
end M
namespace M
open PySem PySem.Spec PyProof.Rows L2
/-! ### values of several types: data -/
mutual
theorem dp_mono {K : PySem.W.Frag} {I J : Hp} (e : Same I J) : ∀ {v : V} {d : PyData}, Dp K I v d → Dp K J v d
  | _, _, .non => .non
  | _, _, .bl b => .bl b
  | _, _, .int i => .int i
  | _, _, .str x => .str x
  | _, _, .lst h t => .lst (e.seq h) (dpAll_mono e t)
  | _, _, .tup h t => .tup (same_seqT e h) (dpAll_mono e t)
theorem dpAll_mono {K : PySem.W.Frag} {I J : Hp} (e : Same I J) : ∀ {vs : List V} {ds : List PyData}, DpAll K I vs ds → DpAll K J vs ds
  | _, _, .nil => .nil
  | _, _, .cons h t => .cons (dp_mono e h) (dpAll_mono e t)
end
instance repDt : Rep PyData := ⟨fun K I v d => Dp K I v d, fun e h => dp_mono e h⟩
theorem dpAllD {K : PySem.W.Frag} {I : Hp} : ∀ {vs : List V} {ds : List PyData}, Paired (fun v d => Dp K I v d) vs ds → DpAll K I vs ds
  | _, _, .nil => .nil
  | _, _, .cons r t => .cons r (dpAllD t)
def isNonD : PyData → Bool
  | .none => true
  | _ => false
/-- what isinstance tells of data -/
def isD (T : String) : PyData → Bool
  | .none => T == "NoneType"
  | .bool _ => T == "bool" || T == "int"
  | .int _ => T == "int"
  | .str _ => T == "str"
  | .list _ => T == "list"
  | .tuple _ => T == "tuple"
  | .dict _ => T == "dict"
def eqV (x y : PyData) : Res Bool := if (SeqAt.shaped x && SeqAt.shaped y) = true then .ok (PyData.eqv x y) else .bad
def neV (x y : PyData) : Res Bool := if (SeqAt.shaped x && SeqAt.shaped y) = true then .ok (!PyData.eqv x y) else .bad
section
variable {K : PySem.W.Frag} {mg : Str → Option Value} {I H I' H' : Hp} {σ σ' ρ : List (Option V)} {Γ Γ' Θ : List Cell} {i j n : Nat} {v v1 v2 v3 : V} {c c1 c2 : Cell} {o : Option V} {te tl ti to : TE} {ta : TA} {tt : TT} {t u : TS} {dn db dc : L2.St → Hp → Prop} {dr : VK} {Q : VK} {W : WX}
variable {ω : Type} {P : ω → Prop} {X : Exn → Prop} {α β γ δ : Type}
/-- the top of the stack as data -/
theorem Env.toDt [Rep α] [DecidableEq α] [Dat α] {x : α} (E : Env K I H σ Γ (some v :: ρ) (.im x :: Θ)) : Env K I H σ Γ (some v :: ρ) (.im (Dat.toD x) :: Θ) := E.pop.push (a := Dat.toD x) (Dat.dp (α := α) E.topR)
theorem Env.unitDt {x : Unit} (E : Env K I H σ Γ (some v :: ρ) (.im x :: Θ)) : Env K I H σ Γ (some v :: ρ) (.im PyData.none :: Θ) := E.pop.push (a := PyData.none) (by
  have h : v = V.non ∧ True := E.topR
  rw [h.1]
  exact Dp.non)
theorem Env.tupDt {ds : List PyData} (E : Env K I H σ Γ (some v :: ρ) (.im (TupL.mk ds) :: Θ)) : Env K I H σ Γ (some v :: ρ) (.im (PyData.tuple ds) :: Θ) := E.pop.push (a := PyData.tuple ds) (by
  obtain ⟨a, vs, rfl, hq, p⟩ := E.topR
  exact .tup hq (dpAllD p))
theorem Env.lstDt {ds : List PyData} (E : Env K I H σ Γ (some v :: ρ) (.im ds :: Θ)) : Env K I H σ Γ (some v :: ρ) (.im (PyData.list ds) :: Θ) := E.pop.push (a := PyData.list ds) (by
  obtain ⟨a, vs, rfl, hq, p⟩ := E.topR
  exact .lst (SqL.of hq) (dpAllD p))
theorem st_eqV {x y : PyData} {k : Bool → Res ω} (E : Env K I H σ Γ (some v2 :: some v1 :: ρ) (.im y :: .im x :: Θ)) (h : wp ((eqV x y).bind k) P X)
    (next : ∀ b v, Env K I H σ Γ (some v :: ρ) (.im b :: Θ) → wp (k b) P X → Q v H) : OpG (rEqD K) v1 v2 H Q := by
  unfold eqV at h
  split at h
  · rename_i hb
    have hb := (Bool.and_eq_true _ _).mp hb
    exact ⟨_, _, dp_mono E.same (show Dp K I v1 x from E.pop.topR), dp_mono E.same (show Dp K I v2 y from E.topR), hb.1, hb.2, next _ _ (E.pop.pop.pushS (a := PyData.eqv x y) trivial) h⟩
  · exact h.elim
theorem st_neV {x y : PyData} {k : Bool → Res ω} (E : Env K I H σ Γ (some v2 :: some v1 :: ρ) (.im y :: .im x :: Θ)) (h : wp ((neV x y).bind k) P X)
    (next : ∀ b v, Env K I H σ Γ (some v :: ρ) (.im b :: Θ) → wp (k b) P X → Q v H) : OpG (rNeD K) v1 v2 H Q := by
  unfold neV at h
  split at h
  · rename_i hb
    have hb := (Bool.and_eq_true _ _).mp hb
    exact ⟨_, _, dp_mono E.same (show Dp K I v1 x from E.pop.topR), dp_mono E.same (show Dp K I v2 y from E.topR), hb.1, hb.2, next _ _ (E.pop.pop.pushS (a := !PyData.eqv x y) trivial) h⟩
  · exact h.elim
theorem Env.datAt {d : PyData} (E : Env K I H σ Γ ρ Θ) (h : Γ[i]? = some (.im d)) : ∃ v, σ[i]? = some (some v) ∧ Dp K I v d := by
  obtain ⟨v, hs, r⟩ := E.get h
  exact ⟨v, hs, r⟩
def rIsNn : R2 := fun x y H Q => y = .non ∧ Q (.bl (decide (x = .non))) H
def rNotNn : R2 := fun x y H Q => y = .non ∧ Q (.bl (!decide (x = .non))) H
theorem dp_non {d : PyData} (h : Dp K I v d) : decide (v = V.non) = isNonD d := by
  cases h <;> rfl
theorem hf_isNon {d : PyData} (hΓ : Γ[i]? = some (.im d)) : HF K (tOp rIsNn (tVar i) (tC .non)) Γ (.ok (isNonD d)) := .mk fun X Q E q => by
  obtain ⟨v, hs, r⟩ := E.datAt hΓ
  refine ⟨v, hs, rfl, ?_⟩
  rw [dp_non r]
  exact q trivial
theorem hf_notNon {d : PyData} (hΓ : Γ[i]? = some (.im d)) : HF K (tOp rNotNn (tVar i) (tC .non)) Γ (.ok (!isNonD d)) := .mk fun X Q E q => by
  obtain ⟨v, hs, r⟩ := E.datAt hΓ
  refine ⟨v, hs, rfl, ?_⟩
  rw [dp_non r]
  exact q trivial
theorem dp_ty {d : PyData} (h : Dp K H v d) : ∃ t : String, TyX K H v (.type t) ∧ ∀ T : String, (T = "int" ∨ T = "bool" ∨ T = "str" ∨ T = "list" ∨ T = "tuple") → ∀ K, PySem.W.kitOne K (.type t) (.type T) = some (isD T d) := by
  cases h with
  | non => exact ⟨_, .base .non, fun T hT K => by rcases hT with rfl | rfl | rfl | rfl | rfl <;> rfl⟩
  | bl b => exact ⟨_, .base (.bl b), fun T hT K => by rcases hT with rfl | rfl | rfl | rfl | rfl <;> rfl⟩
  | int i => exact ⟨_, .base (.int i), fun T hT K => by rcases hT with rfl | rfl | rfl | rfl | rfl <;> rfl⟩
  | str x => exact ⟨_, .base (.str x), fun T hT K => by rcases hT with rfl | rfl | rfl | rfl | rfl <;> rfl⟩
  | lst h t =>
    refine ⟨"list", ?_, fun T hT K => by rcases hT with rfl | rfl | rfl | rfl | rfl <;> rfl⟩
    rcases h with (h | ⟨o, h⟩) | ⟨o, _, _, h1, h2, _⟩
    · exact .base (.lst h)
    · exact .base (.frz h)
    · exact .kList h1 h2
  | tup h t =>
    refine ⟨"tuple", ?_, fun T hT K => by rcases hT with rfl | rfl | rfl | rfl | rfl <;> rfl⟩
    rcases h with (h | ⟨o, h⟩) | ⟨o, _, _, h1, h2, _⟩
    · exact .base (.tup h)
    · exact .fTuple h
    · exact .kTuple h1 h2
theorem hf_isDt {d : PyData} {T : String} (hΓ : Γ[i]? = some (.im d)) (hT : T = "int" ∨ T = "bool" ∨ T = "str" ∨ T = "list" ∨ T = "tuple") : HF K (tIsi K i T) Γ (.ok (isD T d)) := .mk fun X Q E q => by
  obtain ⟨v, hs, r⟩ := E.datAt hΓ
  obtain ⟨t, ty, k⟩ := dp_ty (dp_mono E.same r)
  exact ⟨v, hs, _, _, _, _, _, rfl, .ty T, ty, k T hT K, q trivial⟩
/-! ### range with calls in it: its ends on the stack -/
def RgG1 (vs : List V) (H1 : Hp) (R : It → Hp → Prop) : Prop := ∃ j, vs = [V.int j] ∧ -2 ^ 62 ≤ j ∧ j < 2 ^ 62 ∧ R (Itr 0 j.toNat) H1
def RgG2 (vs : List V) (H1 : Hp) (R : It → Hp → Prop) : Prop := ∃ i j, vs = [V.int i, V.int j] ∧ (-2 ^ 62 ≤ i ∧ i < 2 ^ 62 ∧ -2 ^ 62 ≤ j ∧ j < 2 ^ 62) ∧ R (Itr i (j - i).toNat) H1
theorem uRng1 {R : It → Hp → Prop} (h : ta σ H fun vs H1 => RgG1 vs H1 R) : iRng1 ta σ H R := h
theorem uRng2 {R : It → Hp → Prop} (h : ta σ H fun vs H1 => RgG2 vs H1 R) : iRng2 ta σ H R := h
theorem it_rng1S {R : It → Hp → Prop} {b : Int} {k : List Int → Res ω} (E : Env K I H σ Γ (some v :: ρ) (.im b :: Θ)) (h : wp ((rngR 0 b).bind k) P X)
    (next : ∀ xs, wp (k xs) P X → Env K I H σ Γ ρ Θ → ∀ J, Feeds K J xs [] [] → R J H) : RgG1 [v] H R := by
  have e := E.topS
  unfold rngR at h
  rw [clo_eq] at h
  by_cases hr : RgOk 0 b
  · rw [if_pos hr] at h
    have e2 : (b - 0).toNat = b.toNat := by omega
    unfold rng at h
    rw [e2] at h
    exact ⟨b, by rw [e.1]; rfl, hr.2.2.1, hr.2.2.2, it_rng0 (next _ h E.pop)⟩
  · rw [if_neg hr] at h
    exact h.elim
theorem it_rng2S {R : It → Hp → Prop} {a b : Int} {k : List Int → Res ω} (E : Env K I H σ Γ (some v2 :: some v1 :: ρ) (.im b :: .im a :: Θ)) (h : wp ((rngR a b).bind k) P X)
    (next : ∀ xs, wp (k xs) P X → Env K I H σ Γ ρ Θ → ∀ J, Feeds K J xs [] [] → R J H) : RgG2 [v1, v2] H R := by
  have e := E.topS
  have e1 := E.pop.topS
  unfold rngR at h
  rw [clo_eq] at h
  by_cases hr : RgOk a b
  · rw [if_pos hr] at h
    exact ⟨a, b, by rw [e.1, e1.1]; rfl, hr, it_rng0 (next _ h E.pop.pop)⟩
  · rw [if_neg hr] at h
    exact h.elim
/-! ### ''.join -/
end
def joinT (sep : Tx) : List Tx → Tx
  | [] => []
  | x :: xs => xs.foldl (fun acc p => acc ++ sep ++ p) x
noncomputable def lJoin (sep : Tx) (xs : List Tx) : Res Tx := clo (if (xs.map (·.length)).sum + xs.length * sep.length ≤ 16777216 then .ok (joinT sep xs) else .bad)
theorem foldl_join (sep : Tx) : ∀ (xs : List Tx) (acc : Tx), (xs.map mkS).foldl (fun (acc : Array Nat) p => acc ++ (mkS sep).cps ++ p.cps) acc.toArray = (xs.foldl (fun acc p => acc ++ sep ++ p) acc).toArray
  | [], acc => rfl
  | x :: xs, acc => by
    rw [List.map_cons, List.foldl_cons, List.foldl_cons, ← foldl_join sep xs]
    congr 1
    show acc.toArray ++ sep.toArray ++ x.toArray = _
    rw [List.append_toArray, List.append_toArray]
theorem join_mk (sep : Tx) (xs : List Tx) : Txt.join (mkS sep) (xs.map mkS) = mkS (joinT sep xs) := by
  cases xs with
  | nil => rfl
  | cons x xs =>
    show Str.mk _ = Str.mk _
    congr 1
    exact foldl_join sep xs x
theorem foldl_join_len (sep : Tx) : ∀ (xs : List Tx) (acc : Tx), (xs.foldl (fun acc p => acc ++ sep ++ p) acc).length = acc.length + (xs.map (·.length)).sum + xs.length * sep.length
  | [], acc => by simp
  | x :: xs, acc => by
    rw [List.foldl_cons, foldl_join_len sep xs, List.map_cons, List.sum_cons, List.length_cons, Nat.add_mul, Nat.one_mul, List.length_append, List.length_append]
    omega
theorem joinT_len (sep : Tx) (xs : List Tx) : (joinT sep xs).length ≤ (xs.map (·.length)).sum + xs.length * sep.length := by
  cases xs with
  | nil => exact Nat.zero_le _
  | cons x xs =>
    show (xs.foldl (fun acc p => acc ++ sep ++ p) x).length ≤ _
    rw [foldl_join_len, List.map_cons, List.sum_cons, List.length_cons, Nat.add_mul]
    omega
theorem joinT_nil (xs : List Tx) : joinT [] xs = xs.flatten := by
  cases xs with
  | nil => rfl
  | cons x xs =>
    show xs.foldl (fun acc p => acc ++ [] ++ p) x = _
    rw [List.flatten_cons]
    have : ∀ (xs : List Tx) (acc : Tx), xs.foldl (fun acc p => acc ++ [] ++ p) acc = acc ++ xs.flatten := by
      intro xs
      induction xs with
      | nil => intro acc; simp
      | cons y ys ih => intro acc; rw [List.foldl_cons, ih, List.flatten_cons]; simp
    exact this xs x
section
variable {K : PySem.W.Frag} {mg : Str → Option Value} {I H I' H' : Hp} {σ σ' ρ : List (Option V)} {Γ Γ' Θ : List Cell} {i j n : Nat} {v v1 v2 v3 : V} {c c1 c2 : Cell} {o : Option V} {te tl ti to : TE} {ta : TA} {tt : TT} {t u : TS} {dn db dc : L2.St → Hp → Prop} {dr : VK} {Q : VK} {W : WX}
variable {ω : Type} {P : ω → Prop} {X : Exn → Prop} {α β γ δ : Type}
abbrev rJoin (K : PySem.W.Frag) : V → List V → Hp → VK → Prop := fun x xs H Q => ∃ a p, ∃ ys : List Str, x = .str a ∧ xs = [.ref p] ∧ (SqL K H p (ys.map V.str) ∨ SqT K H p (ys.map V.str)) ∧
      (ys.map (·.length)).sum + ys.length * a.length ≤ 16777216 ∧ Q (.str (Txt.join a ys)) H
def JnG (K : PySem.W.Frag) : V → List V → Hp → VK → Prop := rJoin K
theorem uJoin (h : to σ H fun x H1 => (∃ a, x = V.str a) ∧ te σ H1 fun y H2 => JnG K x [y] H2 Q) : tM1 (rJoin K) to te σ H Q := h
theorem paired_txt {I : Hp} : ∀ {vs : List V} {xs : List Tx}, Paired (fun v x => Rep.rp K I v x) vs xs → vs = (xs.map mkS).map V.str
  | _, _, .nil => rfl
  | _, _, .cons r t => by
    rw [List.map_cons, List.map_cons, paired_txt t]
    congr 1
    exact r.1
theorem st_joinA {sep : Tx} (E : Env K I H σ Γ (some v :: ρ) (.im sep :: Θ)) : ∃ a, v = V.str a := ⟨_, E.topS.1⟩
theorem st_join {sep : Tx} {xs : List Tx} {k : Tx → Res ω} (E : Env K I H σ Γ (some v2 :: some v1 :: ρ) (.im xs :: .im sep :: Θ)) (h : wp ((lJoin sep xs).bind k) P X)
    (next : ∀ t v, Env K I H σ Γ (some v :: ρ) (.im t :: Θ) → wp (k t) P X → Q v H) : JnG K v1 [v2] H Q := by
  unfold lJoin at h
  rw [clo_eq] at h
  obtain ⟨a, vs, rfl, hq, pr⟩ := E.topR
  have e1 := E.pop.topS
  have ll : ∀ xs : List Tx, ((xs.map mkS).map (·.length)).sum = (xs.map (·.length)).sum := by
    intro xs
    induction xs with
    | nil => rfl
    | cons x xs ih => simp only [List.map_cons, List.sum_cons, ih]; congr 1
  by_cases hb : (xs.map (·.length)).sum + xs.length * sep.length ≤ 16777216
  · rw [if_pos hb] at h
    refine ⟨_, a, xs.map mkS, e1.1, rfl, .inl (SqL.of (by rw [← paired_txt pr]; exact E.same _ _ hq)), ?_, ?_⟩
    · rw [ll, List.length_map]
      exact hb
    · rw [join_mk]
      exact next _ _ (E.pop.pop.pushS (a := joinT sep xs) (Nat.le_trans (joinT_len sep xs) hb)) h
  · rw [if_neg hb] at h
    exact h.elim
/-! ### text.index(t) -/
noncomputable def xIndex (a b : Tx) : Res Int := clo (match Builtin.Str.occurrences (mkS a) (mkS b) 0 (mkS a).length 1 with
  | i :: _ => .ok (i : Int)
  | [] => .bad)
def rIndexT : V → List V → Hp → VK → Prop := fun x xs H Q => ∃ a b i rest, x = .str a ∧ xs = [.str b] ∧ Builtin.Str.occurrences a b 0 a.length 1 = i :: rest ∧ Q (.int (i : Nat)) H
theorem hf_index {tb tc : TE} {m1 m2 : Res Tx} (h1 : HF K tb Γ m1) (h2 : HF K tc Γ m2) : HF K (tM1 rIndexT tb tc) Γ (m1.bind fun a => m2.bind fun b => xIndex a b) := .mk fun X Q E q =>
  h1.run X _ E (wpb q fun a q oa => ⟨⟨_, rfl⟩, h2.run X _ E (wpb q fun b q ob => by
    unfold xIndex at q
    rw [clo_eq] at q
    cases e : Builtin.Str.occurrences (mkS a) (mkS b) 0 (mkS a).length 1 with
    | nil => rw [e] at q; exact q.elim
    | cons i rest =>
      rw [e] at q
      exact ⟨_, _, i, rest, rfl, rfl, e, q trivial⟩)⟩)
end
end M
namespace M
open PySem PySem.Spec PyProof.Rows L2
/-! ### loops over owned lists that the body leaves alone -/
section
variable {K : PySem.W.Frag} {mg : Str → Option Value} {I H I' H' : Hp} {σ σ' ρ : List (Option V)} {Γ Γ' Θ : List Cell} {i j n : Nat} {v v1 v2 v3 : V} {c c1 c2 : Cell} {o : Option V} {te tl ti to : TE} {ta : TA} {tt : TT} {t u : TS} {dn db dc : L2.St → Hp → Prop} {dr : VK} {Q : VK} {W : WX}
variable {ω : Type} {P : ω → Prop} {X : Exn → Prop} {α β γ δ : Type}
/-- the walk J yields xs, as long as C is true of the names -/
structure FeedsC (K : PySem.W.Frag) (J : It) {α : Type} [Rep α] (xs : List α) (C : List Cell → Prop) : Prop where
  go : ∀ {I H : Hp} {σ ρ : List (Option V)} {Γ Θ : List Cell} (i : Nat), Env K I H σ Γ ρ Θ → C Γ → i < xs.length → J.go i H
  yld : ∀ {I H : Hp} {σ ρ : List (Option V)} {Γ Θ : List Cell} (i : Nat) (x : V) (H' : Hp) (a : α), Env K I H σ Γ ρ Θ → C Γ → xs[i]? = some a → J.yld i H x H' → ∃ I', Grow I H I' H' ∧ Rep.rp K I' x a
  stop : ∀ {I H : Hp} {σ ρ : List (Option V)} {Γ Θ : List Cell} (i : Nat), Env K I H σ Γ ρ Θ → C Γ → xs.length ≤ i → J.stop i H
theorem Env.pinL {α : Type} [Rep α] {xs : List α} {pn pn' : Option V} (E : Env K I H σ Γ ρ Θ) (h : Γ[j]? = some (.own xs pn)) (hp : ∀ v w, σ[j]? = some (some v) → pn' = some w → v = w) : Env K I H σ (Γ.set j (.own xs pn')) ρ Θ := by
  obtain ⟨o, r, ho, e, back⟩ := E.pick h
  obtain ⟨p, vs, e1, _⟩ := id e.ownL
  subst e1
  have z := back (some (V.ref p)) (.own xs pn') (e.repin fun w hw => hp _ w ho hw)
  have ss : σ.set j (some (V.ref p)) = σ := set_same ho
  rw [ss] at z
  exact z
theorem Env.unpinL {α : Type} [Rep α] {xs : List α} {pn : Option V} (E : Env K I H σ Γ ρ Θ) (h : Γ[j]? = some (.own xs pn)) : Env K I H σ (Γ.set j (.own xs none)) ρ Θ := E.pinL h fun _ _ _ e => nomatch e
theorem Env.pinAt {α : Type} [Rep α] {xs : List α} {w : V} (E : Env K I H σ Γ ρ Θ) (h : Γ[j]? = some (.own xs (some w))) : σ[j]? = some (some w) := by
  obtain ⟨o, r, ho, e, back⟩ := E.pick h
  obtain ⟨p, vs, e1, _⟩ := id e.ownL
  subst e1
  rw [ho, e.pin w rfl]
theorem it_own {α : Type} [Rep α] {R : It → Hp → Prop} {xs : List α} {pn : Option V} (E : Env K I H σ Γ ρ Θ) (hΓ : Γ[j]? = some (.own xs pn))
    (next : ∀ a, Env K I H σ (Γ.set j (.own xs (some (.ref a)))) ρ Θ → FeedsC K (Itl K a) xs (fun Γ => Γ[j]? = some (.own xs (some (.ref a)))) → R (Itl K a) H) : iList K (tVar j) σ H R := by
  obtain ⟨p, vs, hs, hp, _, r, _⟩ := E.ownAt hΓ
  have at_ : ∀ {I H : Hp} {σ ρ : List (Option V)} {Γ Θ : List Cell}, Env K I H σ Γ ρ Θ → Γ[j]? = some (.own xs (some (.ref p))) → ∃ vs, H p = some (.lst vs) ∧ Paired (fun v x => Rep.rp K I v x) vs xs := by
    intro I H σ ρ Γ Θ E h
    obtain ⟨q, vs, hs, hq, _, r, _⟩ := E.ownAt h
    have e := E.pinAt h
    rw [hs] at e
    cases e
    exact ⟨vs, hq, r⟩
  refine ⟨_, hs, p, rfl, ⟨vs, SqL.of hp⟩, next p (E.pinL hΓ fun v w h1 h2 => ?_) ⟨fun {I H} {_ _} {_ _} i E' h hi => ?_, fun {I H} {_ _} {_ _} i x H' b E' h hx hy => ?_, fun {I H} {_ _} {_ _} i E' h hi => ?_⟩⟩
  · rw [hs] at h1
    cases h1
    cases h2
    rfl
  · obtain ⟨vs, hq, r⟩ := at_ E' h
    have hl : vs.length = xs.length := Paired.length r
    exact ⟨vs, vs[i]'(by omega), SqL.of hq, List.getElem?_eq_getElem (by omega)⟩
  · obtain ⟨vs, hq, r⟩ := at_ E' h
    obtain ⟨rfl, hy⟩ := hy
    exact ⟨I, Grow.refl E'.same, paired_at r (hy _ (SqL.of hq)) hx⟩
  · obtain ⟨vs, hq, r⟩ := at_ E' h
    have hl : vs.length = xs.length := Paired.length r
    exact ⟨vs, SqL.of hq, by omega⟩
theorem st_forC {α ρτ S : Type} [Rep α] {xs : List α} {J : It} {C : List Cell → Prop} {g : TG} {tb : TS} {f : α → S → Res (Fl ρτ S)} {k : Lp ρτ S → Res ω} {s0 : S} (hJ : FeedsC K J xs C) (R : ρτ → Prop) (G : S → List Cell) (hC : ∀ s, C (G s))
    (E : Env K I H σ Γ ρ Θ) (w : Wk Γ (G s0)) (h : wp ((forR f xs s0).bind k) P X) (ret : ∀ r, wp (k (.ret r)) P X → R r)
    (turn : ∀ x s I' H' σ' y (N B : L2.St → Hp → Prop), Env K I' H' σ' (G s) (some y :: ρ) (.im x :: Θ) → wp (f x s) (TurnP K G ρ Θ N B R) X → g y σ' H' fun σ2 H2 => tb ⟨N, dr, B, N⟩ σ2 H2)
    (rest : ∀ s I' H' σ', Env K I' H' σ' (G s) ρ Θ → wp (k (.fin s)) P X → dn σ' H') :
    ∃ W : Nat → Nat → L2.St → Hp → Prop, (∃ m, W 0 m σ H) ∧ ∀ i m σ H, W i m σ H →
      (J.stop i H ∧ dn σ H) ∨ (J.go i H ∧ ∃ N : L2.St → Hp → Prop, (∀ σ' H', N σ' H' → ∃ m', m' < m ∧ W (i + 1) m' σ' H') ∧ ∀ x H', J.yld i H x H' → g x σ H' fun σ2 H2 => tb ⟨N, dr, dn, N⟩ σ2 H2) := by
  refine ⟨fun i m σ' H' => m = xs.length - i ∧ i ≤ xs.length ∧ ∃ s I', Env K I' H' σ' (G s) ρ Θ ∧ wp ((forR f (xs.drop i) s).bind k) P X, ⟨xs.length, by simp, Nat.zero_le _, s0, I, E.weak w, h⟩, ?_⟩
  rintro i m σ' H' ⟨rfl, hi, s, I', E', h'⟩
  by_cases hlt : i < xs.length
  · have hx : xs[i]? = some xs[i] := List.getElem?_eq_getElem hlt
    rw [forR_at hx, Res.bind_assoc] at h'
    refine .inr ⟨hJ.go i E' (hC s) hlt, fun σ2 H2 => ∃ s I', Env K I' H2 σ2 (G s) ρ Θ ∧ wp ((forR f (xs.drop (i + 1)) s).bind k) P X, fun σ2 H2 z => ⟨xs.length - (i + 1), by omega, rfl, hlt, z⟩, fun y H2 hyl => ?_⟩
    obtain ⟨I2, g2, ry⟩ := hJ.yld i y H2 _ E' (hC s) hx hyl
    refine turn _ s I2 H2 σ' y _ _ ((E'.grow g2).push ry) (wpb h' fun z q => ?_)
    cases z with
    | nx s' => exact fun I2 H2 σ2 E2 => ⟨s', I2, E2, q⟩
    | bk s' => exact fun I2 H2 σ2 E2 => rest s' I2 H2 σ2 E2 q
    | rt r => exact ret r q
  · have e : i = xs.length := by omega
    subst e
    rw [List.drop_eq_nil_of_le (Nat.le_refl _)] at h'
    exact .inl ⟨hJ.stop _ E' (hC s) (Nat.le_refl _), rest s I' H' σ' E' h'⟩
theorem st_forSC {α S : Type} [Rep α] {xs : List α} {J : It} {C : List Cell → Prop} {g : TG} {tb : TS} {f : α → S → Res S} {k : S → Res ω} {s0 : S} (hJ : FeedsC K J xs C) (G : S → List Cell) (hC : ∀ s, C (G s))
    (E : Env K I H σ Γ ρ Θ) (w : Wk Γ (G s0)) (h : wp ((forS f xs s0).bind k) P X)
    (turn : ∀ x s I' H' σ' y (N B : L2.St → Hp → Prop), Env K I' H' σ' (G s) (some y :: ρ) (.im x :: Θ) → wp (f x s) (fun s => ∀ I' H' σ', Env K I' H' σ' (G s) ρ Θ → N σ' H') X → g y σ' H' fun σ2 H2 => tb ⟨N, dr, B, N⟩ σ2 H2)
    (rest : ∀ s I' H' σ', Env K I' H' σ' (G s) ρ Θ → wp (k s) P X → dn σ' H') :
    ∃ W : Nat → Nat → L2.St → Hp → Prop, (∃ m, W 0 m σ H) ∧ ∀ i m σ H, W i m σ H →
      (J.stop i H ∧ dn σ H) ∨ (J.go i H ∧ ∃ N : L2.St → Hp → Prop, (∀ σ' H', N σ' H' → ∃ m', m' < m ∧ W (i + 1) m' σ' H') ∧ ∀ x H', J.yld i H x H' → g x σ H' fun σ2 H2 => tb ⟨N, dr, dn, N⟩ σ2 H2) := by
  refine ⟨fun i m σ' H' => m = xs.length - i ∧ i ≤ xs.length ∧ ∃ s I', Env K I' H' σ' (G s) ρ Θ ∧ wp ((forS f (xs.drop i) s).bind k) P X, ⟨xs.length, by simp, Nat.zero_le _, s0, I, E.weak w, h⟩, ?_⟩
  rintro i m σ' H' ⟨rfl, hi, s, I', E', h'⟩
  by_cases hlt : i < xs.length
  · have hx : xs[i]? = some xs[i] := List.getElem?_eq_getElem hlt
    rw [forS_at hx, Res.bind_assoc] at h'
    refine .inr ⟨hJ.go i E' (hC s) hlt, fun σ2 H2 => ∃ s I', Env K I' H2 σ2 (G s) ρ Θ ∧ wp ((forS f (xs.drop (i + 1)) s).bind k) P X, fun σ2 H2 z => ⟨xs.length - (i + 1), by omega, rfl, hlt, z⟩, fun y H2 hyl => ?_⟩
    obtain ⟨I2, g2, ry⟩ := hJ.yld i y H2 _ E' (hC s) hx hyl
    exact turn _ s I2 H2 σ' y _ _ ((E'.grow g2).push ry) (wpb h' fun s' q I3 H3 σ3 E3 => ⟨s', I3, E3, q⟩)
  · have e : i = xs.length := by omega
    subst e
    rw [List.drop_eq_nil_of_le (Nat.le_refl _)] at h'
    exact .inl ⟨hJ.stop _ E' (hC s) (Nat.le_refl _), rest s I' H' σ' E' h'⟩
end
end M
namespace M
open PySem PySem.Spec PyProof.Rows L2
/-! ### texts in lists; the least of some texts -/
theorem lt_str (a b : Tx) : W.dataLt (.str (mkS a)) (.str (mkS b)) = decide (a < b) := by
  show PyProof.Rows.lexLt itemOrd [Sum.inr (mkS a).cps.toList] [Sum.inr (mkS b).cps.toList] = _
  rw [mkS_list, mkS_list]
  by_cases e : a = b
  · subst e
    rw [show PyProof.Rows.lexLt itemOrd [Sum.inr a] [Sum.inr a] = false from (lex_self (O := itemOrd) (Sum.inr a) [] []).trans rfl, decide_eq_false (List.lt_irrefl _)]
  · have ne : (Sum.inr a : Int ⊕ List Nat) ≠ Sum.inr b := fun q => e (Sum.inr.inj q)
    rw [lex_diff (O := itemOrd) ne]
    rfl
def minT : Tx → List Tx → Tx := fun x xs => xs.foldl (fun a y => if xLt y a = true then y else a) x
theorem minD_txt : ∀ (xs : List Tx) (x : Tx), W.minD (PyData.str (mkS x)) (xs.map fun t => PyData.str (mkS t)) = .str (mkS (minT x xs)) := by
  intro xs
  induction xs with
  | nil => intro x; rfl
  | cons y ys ih =>
    intro x
    rw [List.map_cons]
    unfold W.minD minT
    rw [List.foldl_cons, List.foldl_cons]
    have ih : ∀ x : Tx, List.foldl (fun a y => if W.dataLt y a = true then y else a) (PyData.str (mkS x)) (ys.map fun t => PyData.str (mkS t)) = PyData.str (mkS (List.foldl (fun a y => if xLt y a = true then y else a) x ys)) := ih
    rw [lt_str]
    unfold xLt
    by_cases h : y < x
    · rw [decide_eq_true h, if_pos rfl, if_pos rfl]
      exact ih y
    · rw [decide_eq_false h, if_neg (by decide), if_neg (by decide)]
      exact ih x
theorem minT_mem : ∀ (xs : List Tx) (x : Tx), minT x xs ∈ x :: xs := by
  intro xs
  induction xs with
  | nil => intro x; exact List.mem_cons_self
  | cons y ys ih =>
    intro x
    have := ih (if xLt y x = true then y else x)
    show List.foldl _ _ _ ∈ _
    unfold minT at this
    rcases List.mem_cons.mp this with e | e
    · rw [List.foldl_cons, e]
      split <;> simp
    · exact List.mem_cons_of_mem _ (List.mem_cons_of_mem _ e)
theorem minT_le : ∀ (xs : List Tx) (x : Tx), ∀ y ∈ x :: xs, ¬ y < minT x xs := by
  intro xs
  induction xs with
  | nil =>
    intro x y hy
    have : y = x := by simpa using hy
    rw [this]
    exact List.lt_irrefl _
  | cons z zs ih =>
    intro x y hy
    have h := ih (if xLt z x = true then z else x)
    show ¬ y < List.foldl _ _ _
    rw [List.foldl_cons]
    unfold minT at h
    have h0 := h _ List.mem_cons_self
    unfold xLt at h h0 ⊢
    rcases List.mem_cons.mp hy with rfl | hy
    · by_cases c : z < y
      · rw [decide_eq_true c, if_pos rfl] at h0 ⊢
        exact fun q => h0 (List.lt_trans c q)
      · rw [decide_eq_false c, if_neg (by decide)] at h0 ⊢
        exact h0
    · rcases List.mem_cons.mp hy with rfl | hy
      · by_cases c : y < x
        · rw [decide_eq_true c, if_pos rfl] at h0 ⊢
          exact h0
        · rw [decide_eq_false c, if_neg (by decide)] at h0 ⊢
          intro q
          exact h0 (List.lt_of_le_of_lt (List.not_lt.mp c) q)
      · exact h y (List.mem_cons_of_mem _ hy)
def lMinT (xs : List Tx) : Res Tx := match xs with
  | [] => .bad
  | x :: xs => .ok (minT x xs)
def rMinT (K : PySem.W.Frag) : List V → Hp → VK → Prop := fun vs H Q => ∃ (a : Addr) (x : Tx) (xs : List Tx), vs = [V.ref a] ∧ SqL K H a (((x :: xs).map mkS).map V.str) ∧ Q (.str (mkS (minT x xs))) H
theorem dpTxt {K : PySem.W.Frag} {H : Hp} : ∀ xs : List Tx, DpAll K H ((xs.map mkS).map V.str) (xs.map fun t => PyData.str (mkS t))
  | [] => .nil
  | x :: xs => .cons (.str _) (dpTxt xs)
theorem cr_minT {X : Cx} (hc : X.calm = true) (hu : X.A.units + 64 < cLine) : CallR X (.builtin "min") (rMinT X.K) := by
  intro pins s σ H vs us Q I r h
  obtain ⟨a, x, xs, rfl, hs, q⟩ := h
  obtain ⟨its, rv, hl, _⟩ := I.list hs
  rw [Vals.ref1 r]
  obtain ⟨as, ra⟩ := Dp.readsAll I _ _ _ (dpTxt (x :: xs)) rv
  have dz : PyData.depthAll ((x :: xs).map fun t => PyData.str (mkS t)) = 0 := by
    generalize x :: xs = l
    induction l with
    | nil => rfl
    | cons y ys ih =>
      show max 0 (PyData.depthAll _) = 0
      rw [ih]
      rfl
  refine W.min_list_data (x := .str (mkS x)) (xs := xs.map fun t => .str (mkS t)) (I.ok.hd hc) hl.isList (by simpa using ra) ⟨fun u hu v hv => ?_, fun u hu => ?_⟩ (by rw [show PyData.str (mkS x) :: xs.map (fun t => PyData.str (mkS t)) = (x :: xs).map fun t => PyData.str (mkS t) from rfl, dz]; omega) fun i v h' tk bs hv rd hk => ?_
  · rw [show PyData.str (mkS x) :: xs.map (fun t => PyData.str (mkS t)) = (x :: xs).map fun t => PyData.str (mkS t) from rfl] at hu hv
    obtain ⟨t, _, rfl⟩ := List.mem_map.mp hu
    obtain ⟨t2, _, rfl⟩ := List.mem_map.mp hv
    rfl
  · rw [show PyData.str (mkS x) :: xs.map (fun t => PyData.str (mkS t)) = (x :: xs).map fun t => PyData.str (mkS t) from rfl] at hu
    obtain ⟨t, _, rfl⟩ := List.mem_map.mp hu
    exact fun e => nomatch e
  · rw [minD_txt] at rd
    cases rd
    exact ⟨.str _, H, I.kept hk, ⟨_, rfl⟩, q⟩
section
variable {K : PySem.W.Frag} {mg : Str → Option Value} {I H I' H' : Hp} {σ σ' ρ : List (Option V)} {Γ Γ' Θ : List Cell} {i j n : Nat} {v v1 v2 v3 : V} {c c1 c2 : Cell} {o : Option V} {te tl ti to : TE} {ta : TA} {tt : TT} {t u : TS} {dn db dc : L2.St → Hp → Prop} {dr : VK} {Q : VK} {W : WX}
variable {ω : Type} {P : ω → Prop} {X : Exn → Prop} {α β γ δ : Type} {pn : Option V}
theorem st_minT {xs : List Tx} {k : Tx → Res ω} (E : Env K I H σ Γ (some v :: ρ) (.im xs :: Θ)) (h : wp ((lMinT xs).bind k) P X) (next : ∀ t v, Env K I H σ Γ (some v :: ρ) (.im t :: Θ) → wp (k t) P X → Q v H) : CbG (rMinT K) [v] H Q := by
  obtain ⟨a, vs, rfl, hq, pr⟩ := E.topR
  cases xs with
  | nil => exact h.elim
  | cons x xs =>
    have ok : (minT x xs).length ≤ line := by
      have all : ∀ {vs : List V} {ys : List Tx}, Paired (fun v x => Rep.rp K I v x) vs ys → ∀ t ∈ ys, t.length ≤ line := by
        intro vs ys p
        induction p with
        | nil => intro t ht; simp at ht
        | cons r t ih =>
          intro z hz
          rcases List.mem_cons.mp hz with e | e
          · rw [e]; exact r.2
          · exact ih z e
      exact all pr _ (minT_mem xs x)
    refine ⟨a, x, xs, rfl, SqL.of (by rw [← paired_txt pr]; exact E.same _ _ hq), next _ _ (E.pop.pushS (a := minT x xs) ok) h⟩
/-! ### texts in lists -/
theorem inV_txts (x : Tx) : ∀ xs : List Tx, inV (.str (mkS x)) ((xs.map mkS).map V.str) = decide (x ∈ xs)
  | [] => by simp [inV]
  | y :: ys => by
    show (L2.eqV (.str (mkS y)) (.str (mkS x)) || inV (.str (mkS x)) ((ys.map mkS).map V.str)) = _
    rw [inV_txts x ys]
    have e : L2.eqV (.str (mkS y)) (.str (mkS x)) = decide (y = x) := mkS_beq y x
    rw [e]
    by_cases q : y = x
    · subst q; simp
    · have : ¬ x = y := fun z => q z.symm
      simp [q, this]
theorem flat_txts (ns : List Tx) : ((ns.map mkS).map V.str).all flatV = true := by
  rw [List.all_eq_true]
  intro x hx
  obtain ⟨n, _, rfl⟩ := List.mem_map.mp hx
  rfl
theorem hf_inT_of {xs : List Tx} {neg : Bool} {m : Res Tx} (hv : ∀ {I H : Hp} {σ ρ : List (Option V)} {Θ : List Cell}, Env K I H σ Γ ρ Θ → ∃ a vs, σ[j]? = some (some (.ref a)) ∧ H a = some (.lst vs) ∧ Paired (fun v x => Rep.rp K I v x) vs xs) (ht : HF K te Γ m) :
    HF K (tOp (rIn K neg) te (tVar j)) Γ (m.bind fun x => .ok (if neg = true then !decide (x ∈ xs) else decide (x ∈ xs))) := .mk fun X Q E q => ht.run X _ E (wpb q fun x q _ => by
  obtain ⟨a, vs, hs, ha, p⟩ := hv E
  have e := paired_txt p
  subst e
  refine ⟨_, hs, a, _, rfl, .inl (SqL.of ha), rfl, flat_txts _, ?_⟩
  show Q (.bl (if neg = true then !inV (.str (mkS x)) ((xs.map mkS).map V.str) else inV (.str (mkS x)) ((xs.map mkS).map V.str))) _
  rw [inV_txts]
  exact q trivial)
theorem hf_inTL {xs : List Tx} {m : Res Tx} (hΓ : Γ[j]? = some (.im xs)) (ht : HF K te Γ m) : HF K (tOp (rIn K false) te (tVar j)) Γ (m.bind fun x => .ok (decide (x ∈ xs))) := hf_inT_of (neg := false) (fun E => E.listAt hΓ) ht
theorem hf_inTO {xs : List Tx} {m : Res Tx} (hΓ : Γ[j]? = some (.own xs pn)) (ht : HF K te Γ m) : HF K (tOp (rIn K false) te (tVar j)) Γ (m.bind fun x => .ok (decide (x ∈ xs))) := hf_inT_of (neg := false) (fun E => E.ownAt' hΓ) ht
theorem hf_niTL {xs : List Tx} {m : Res Tx} (hΓ : Γ[j]? = some (.im xs)) (ht : HF K te Γ m) : HF K (tOp (rIn K true) te (tVar j)) Γ (m.bind fun x => .ok (!decide (x ∈ xs))) := hf_inT_of (neg := true) (fun E => E.listAt hΓ) ht
theorem hf_niTO {xs : List Tx} {m : Res Tx} (hΓ : Γ[j]? = some (.own xs pn)) (ht : HF K te Γ m) : HF K (tOp (rIn K true) te (tVar j)) Γ (m.bind fun x => .ok (!decide (x ∈ xs))) := hf_inT_of (neg := true) (fun E => E.ownAt' hΓ) ht
theorem hf_in_ofN {xs : List Int} {m : Res Int} (hv : ∀ {I H : Hp} {σ ρ : List (Option V)} {Θ : List Cell}, Env K I H σ Γ ρ Θ → ∃ a vs, σ[j]? = some (some (.ref a)) ∧ H a = some (.lst vs) ∧ Paired (fun v x => Rep.rp K I v x) vs xs) (ht : HF K te Γ m) :
    HF K (tOp (rIn K true) te (tVar j)) Γ (m.bind fun x => .ok (!decide (x ∈ xs))) := .mk fun X Q E q => ht.run X _ E (wpb q fun x q _ => by
  obtain ⟨a, vs, hs, ha, p⟩ := hv E
  have e := ints_rp p
  subst e
  refine ⟨_, hs, a, _, rfl, .inl (SqL.of ha), rfl, flat_ints _, ?_⟩
  show Q (.bl (!inV (.int x) (xs.map V.int))) _
  rw [inV_ints]
  exact q trivial)
theorem hf_niL {xs : List Int} {m : Res Int} (hΓ : Γ[j]? = some (.im xs)) (ht : HF K te Γ m) : HF K (tOp (rIn K true) te (tVar j)) Γ (m.bind fun x => .ok (!decide (x ∈ xs))) := hf_in_ofN (fun E => E.listAt hΓ) ht
theorem hf_niO {xs : List Int} {m : Res Int} (hΓ : Γ[j]? = some (.own xs pn)) (ht : HF K te Γ m) : HF K (tOp (rIn K true) te (tVar j)) Γ (m.bind fun x => .ok (!decide (x ∈ xs))) := hf_in_ofN (fun E => E.ownAt' hΓ) ht
end
end M
namespace M
open PySem PySem.Spec PyProof.Rows L2
/-! ### repr of a whole number, of a text -/
theorem mkS_back (s : Str) : mkS s.cps.toList = s := by
  unfold mkS
  cases s
  simp
noncomputable def xReprI (i : Int) : Res Tx := clo (if i.natAbs.log2 < 1920 then .ok (Str.ofString (toString i)).cps.toList else .bad)
noncomputable def xReprT (w : Tx) : Res Tx := clo (if (reprText (mkS w)).length ≤ sizeLine then .ok (reprText (mkS w)).cps.toList else .bad)
def rReprI : List V → Hp → VK → Prop := fun xs H Q => ∃ i, xs = [V.int i] ∧ i.natAbs.log2 < 1920 ∧ Q (.str (toString i)) H
def rReprT : List V → Hp → VK → Prop := fun xs H Q => ∃ a : Str, xs = [V.str a] ∧ (reprText a).length ≤ sizeLine ∧ Q (.str (reprText a)) H
theorem call_reprT {X : Cx} : CallR X (.builtin "repr") rReprT := by
  intro pins s σ H xs us Q I r h
  obtain ⟨a, rfl, hz, q⟩ := h
  obtain ⟨u, rfl, t, rfl⟩ := vals1 r
  exact PySem.P.repr_of_str ⟨.str _, H, I.tok _, ⟨_, rfl⟩, q⟩ hz
theorem hc_reprI {x : Int} : HC1 rReprI x (xReprI x) := .mk fun X Q ox q => by
  unfold xReprI at q
  rw [clo_eq] at q
  by_cases h : x.natAbs.log2 < 1920
  · rw [if_pos h] at q
    refine ⟨x, rfl, h, ?_⟩
    have e := mkS_back (Str.ofString (toString x))
    have q2 := q (by
      show (Str.ofString (toString x)).cps.toList.length ≤ line
      rw [line_eq, Array.length_toList]
      exact int_text_fits h)
    have q3 : Q (V.str (mkS (Str.ofString (toString x)).cps.toList)) _ := q2
    rw [e] at q3
    exact q3
  · rw [if_neg h] at q
    exact q.elim
theorem hc_reprT {x : Tx} : HC1 rReprT x (xReprT x) := .mk fun X Q ox q => by
  unfold xReprT at q
  rw [clo_eq] at q
  by_cases h : (reprText (mkS x)).length ≤ sizeLine
  · rw [if_pos h] at q
    refine ⟨mkS x, rfl, h, ?_⟩
    have e := mkS_back (reprText (mkS x))
    have q2 := q (by
      show (reprText (mkS x)).cps.toList.length ≤ line
      rw [line_eq, Array.length_toList]
      exact h)
    have q3 : Q (V.str (mkS (reprText (mkS x)).cps.toList)) _ := q2
    rw [e] at q3
    exact q3
  · rw [if_neg h] at q
    exact q.elim
section
variable {K : PySem.W.Frag} {I H : Hp} {σ ρ : List (Option V)} {Γ Θ : List Cell} {ta tb : TE} {Q : VK} {ω : Type} {P : ω → Prop} {X : Exn → Prop}
/-- if-else whose ways change owned things -/
theorem st_itexS {S α : Type} {b : Bool} {mA mB : Res (S × α)} {k : S × α → Res ω} (G : S → List Cell) (oc : α → Cell) (E : Env K I H σ Γ ρ Θ) (h : wp ((if b = true then mA else mB).bind k) P X)
    (h1 : wp mA (fun y => ∀ I' H' v, Env K I' H' σ (G y.1) (some v :: ρ) (oc y.2 :: Θ) → Q v H') X → ta σ H Q) (h2 : wp mB (fun y => ∀ I' H' v, Env K I' H' σ (G y.1) (some v :: ρ) (oc y.2 :: Θ) → Q v H') X → tb σ H Q)
    (next : ∀ s a I' H' v, Env K I' H' σ (G s) (some v :: ρ) (oc a :: Θ) → wp (k (s, a)) P X → Q v H') : if b = true then ta σ H Q else tb σ H Q := by
  cases b with
  | true => exact h1 (wpb h fun a h I' H' v E => next a.1 a.2 I' H' v E h)
  | false => exact h2 (wpb h fun a h I' H' v E => next a.1 a.2 I' H' v E h)
end
/-- a method's derivation where the surroundings are not known early (suites, comprehensions) -/
theorem pe_bmK {X : Cx} {K : PySem.W.Frag} {e : Expr} {T : String} {r : V → List V → Hp → VK → Prop} {to : TE} {t : TA} (h : PE X e (tBM X.K T r to t)) (hK : X.K = K) : PE X e (tBM K T r to t) := hK ▸ h
end M
/-! sets of whole numbers made of lists and tuples, sorted at once; field-less exceptions -/
namespace M
open PySem PySem.Spec PyProof.Rows L2
/-- a set just made -/
abbrev nset (w : World) : Obj := { cls := .type "set", dict := none, data := .set #[] 0 (.fresh 0 0 (!w.params.followText "set-order")) }
section
variable {P : Program} {w : World} {A : Around} {E : Value → Shared → Prop} {s : Shared}
set_option maxHeartbeats 6000000 in
theorem set_listI {la : Addr} {us : Array Value} (ks : List Int) {Q : Value → Shared → Prop} (hA : A.handled = none) (hL : s.heap.IsList la us) (hI : IntsAre us.toList ks) (hB : ks.length + 1 < scanBound)
    (k : ∀ (h2 : Heap) (tk c : Nat), SetR w h2 s.heap.objs.size (fun j => decide (j ∈ ks)) c → c ≤ ks.length → (∀ b o, s.heap.get? b = some o → h2.get? b = some o) → Q (.ref s.heap.objs.size) { s with heap := h2, toks := tk }) :
    wpAny (model P w) A (call (.type "set") [.ref la]) Q E s := by
  have zk : us.size = ks.length := by
    have z := IntsAre.length hI
    rw [Array.length_toList] at z
    exact z
  obtain ⟨c0, tl0, mro0⟩ := F.called_set.mro
  have made0 := F.called_set.made
  have sub0 := F.called_set.sub
  refine wpAny_call (codeAny_of_tree ?_)
  show wpAny _ _ (callAny (.type "set") _) _ _ _
  refine wpAny_pure ⟨Code.quiet_builtin _ (by decide +kernel), codeAny_builtin F.entry_type_call ?_⟩
  rw [Around.under_plain (weight_type_call_type "set" [.ref la] []) rfl]
  have nt := F.called_set.notType
  have cc := F.called_set.canCreate
  have tc := F.typeCall_set_1 (.ref la)
  repeat (any_goals (first | assumption | wp_step))
  refine codeAny_mono (code_set_led1 (.ref la) (E := E) (Q₁ := fun obj t => obj = .ref s.heap.objs.size ∧ t = { s with heap := s.heap.push (nset w) }) ⟨rfl, rfl⟩) fun rr t0 hrr => ?_
  cases rr with
  | error e => exact hrr
  | ok fl =>
    cases fl with
    | ret obj =>
      obtain ⟨rfl, rfl⟩ := hrr
      have gS : (s.heap.push (nset w)).get? s.heap.objs.size = some (nset w) := Heap.get?_push_size _ rfl
      have tS : Shared.TypeIs { s with heap := s.heap.push (nset w) } (.ref s.heap.objs.size) "set" := ⟨_, gS, rfl⟩
      have li := F.called_set.init.lookup
      have bi := F.called_set.init.bind (.ref s.heap.objs.size)
      repeat (any_goals (first | assumption | wp_step))
      refine codeAny_mono (codeAny_call_builtin (R := wants (fun r t => r = .none ∧ ∃ h2 tk c, t = { s with heap := h2, toks := tk } ∧ SetR w h2 s.heap.objs.size (fun j => decide (j ∈ ks)) c ∧ c ≤ ks.length ∧
          (∀ b o, s.heap.get? b = some o → h2.get? b = some o)) E) F.called_set.init.plain F.entry_set_init (check_set_init_1 tS ?_)) fun r2 t2 hr2 => ?_
      · obtain ⟨ol, gl, cl, nl, dl⟩ := hL
        obtain ⟨oc, od, odt, osl⟩ := ol
        simp only at cl dl
        subst cl; subst dl
        have gl2 : (s.heap.push (nset w)).get? la = some { cls := .type "list", dict := od, data := .seq us nl, slots := osl } := Heap.get?_push_of_some _ gl
        have sls := F.sub_list_set
        have slf := F.sub_list_frozenset
        have nd : (Value.type "list" == Value.type "dict") = false := by decide
        have il : (s.heap.push (nset w)).IsList la us := ⟨_, gl2, rfl, nl, rfl⟩
        unfold Builtin.«set.__init__» noKeywords Builtin.Frozenset.updateFrom
        generalize hit : pyIter = IT
        wp_walk
        subst hit
        refine wpAny_pyIter_list il ?_
        refine wpAny_bind (wpAny_runValue ?_)
        have lS : la < s.heap.objs.size := Heap.lt_size gl
        have h3 : A.in1.in1.in1.handled = none := by simp [hA]
        have zI : (s.heap.push (nset w)).objs.size = s.heap.objs.size + 1 := Heap.size_push ..
        have nI : la ≠ (s.heap.push (nset w)).objs.size := by
          rw [zI]; exact Nat.ne_of_lt (Nat.lt_succ_of_lt lS)
        have nS : s.heap.objs.size ∉ [(s.heap.push (nset w)).objs.size, la] := by
          rw [zI]; simp only [List.mem_cons, List.not_mem_nil, or_false, not_or]
          exact ⟨Nat.ne_of_lt (Nat.lt_succ_self _), Nat.ne_of_gt lS⟩
        have vals : ∀ (i : Nat) (v : Value), us[i]? = some v → ∃ k t, ks[i]? = some k ∧ v = .int k t := fun i v hv => by
          have hi : i < ks.length := by rw [← zk]; exact (Array.getElem?_eq_some_iff.mp hv).1
          obtain ⟨t, e⟩ := PyProof.Rows.IntsAre.int_at hI i v (by rw [Array.getElem?_toList]; exact hv)
          refine ⟨ks[i], t, List.getElem?_eq_getElem hi, ?_⟩
          rw [e, List.getD_eq_getElem?_getD, List.getElem?_eq_getElem hi] <;> rfl
        refine set_update_ints ((Walks.list h3 _ la nI us).toS) s.heap.objs.size nS ks zk hB vals (us.size - 0) 0 _ (by omega) (Nat.zero_le _) ⟨⟨_, Heap.get?_push_size _ rfl, rfl, rfl⟩, (il.push _)⟩ ?_ ?_
        · exact ⟨0, Nat.le_refl 0, setR_new_at (Heap.get?_push_of_some _ gS)⟩
        · intro t3 c3 mv lc sr
          obtain ⟨hq, gq, dq, tq, oq⟩ := t3
          have e1 : gq = s.gens := mv.gens
          have e2 : dq = s.drawn := mv.drawn
          have e3 : oq = s.os := mv.os
          subst e1; subst e2; subst e3
          show wpAny _ _ _ _ _ _
          refine wpAny_pure ?_
          show wpAny _ _ (ret Value.none) _ _ _
          rw [zk] at lc
          refine wpAny_pure ⟨rfl, hq, tq, c3, rfl, sr, lc, fun b o e => ?_⟩
          have b0 : b < s.heap.objs.size := Heap.lt_size e
          refine mv.heap b o ?_ (Heap.get?_push_of_some _ (Heap.get?_push_of_some _ e))
          rw [zI]
          simp only [List.mem_cons, List.not_mem_nil, or_false, not_or]
          exact ⟨Nat.ne_of_lt b0, Nat.ne_of_lt (Nat.lt_succ_of_lt b0)⟩
      · cases r2 with
        | error e => exact hr2
        | ok fl2 =>
          cases fl2 with
          | ret r =>
            obtain ⟨rfl, h2, tk, c, rfl, sr, lc, kk⟩ := hr2
            repeat (any_goals (first | assumption | wp_step))
            exact k _ _ _ sr lc kk
          | _ => exact hr2.elim
    | _ => exact hrr.elim
end
end M
namespace M
open PySem PySem.Spec PyProof.Rows L2
/-! ### an own exception without fields -/
theorem pmk_own0N {X : Cx} {C : Addr} {bmB : List Value} {B newId initId : String} {x : Str} {p pos : Pos} (F : ExcBaseFacts B newId initId bmB) (e : PySem.W.excIn X.K C bmB newId = true) (gC : X.mg x = some (.ref C)) (kC : PySem.W.keepIn X.K (.ref C) = true)
    (r : Raises X (.ref C)) (hg : Gl X x) (hdb : (x == ("__debug__" : Str)) = false := by decide) : L2N.PMk X (.Call (.Name x p) [] [] pos) (fun _ H Q => Q (.ref C) none H) := by
  intro pins s σ H Q I h
  refine wpAny_Call_Name_kw (ld_glob I hg gC (PySem.W.callWith_K0 I.kIn kC ?_) hdb)
  obtain ⟨c1, c2, c3, c4, c5, c6, c7, c8, c9, c10, c11, c12, c13, c14, c15, c16, c17, oC, oN, nI, T⟩ := exc_obj I.kIn e
  show wpAny _ _ (call (.ref C) []) _ _ _
  exact wpAny_call_exc_subT F T oC oN nI (fun h2 a mk => L2N.mk_of I mk r h (I.hok.gone mk.new)) (Nat.zero_le _)
/-- what the top says of such a class -/
structure ExcN0 (K : PySem.W.Frag) (mg : Str → Option Value) (x : Str) (C : Addr) : Prop where
  gC : mg x = some (.ref C)
  q : PySem.W.excIn K C [.type "ValueError", .type "Exception", .type "BaseException", .type "object"] "ValueError.__new__" = true
  kC : PySem.W.keepIn K (.ref C) = true
  exC : PySem.W.subIn K (.ref C) (.type "BaseException") = some true
  tyC : PySem.W.typeIn K (.ref C) = some (.type "type")
  ec : ExcC K C
/-! ### a list or a tuple -/
structure SeqL (α : Type) where
  l : List α
instance repSeqL {α : Type} [Rep α] : Rep (SeqL α) where
  rp K I v x := ∃ a vs, v = .ref a ∧ (I a = some (.lst vs) ∨ SqT K I a vs) ∧ Paired (fun v x => Rep.rp K I v x) vs x.l
  mono := fun e ⟨a, vs, e1, h, p⟩ => ⟨a, vs, e1, h.imp (e _ _) (same_seqT e), Paired.monoR (fun _ _ q => Rep.mono e q) p⟩
def minF (x : Int) (xs : List Int) : Int := xs.foldl (fun a y => if y < a then y else a) x
def maxF (x : Int) (xs : List Int) : Int := xs.foldl (fun a y => if a < y then y else a) x
theorem minF_le : ∀ (xs : List Int) (x : Int), minF x xs ≤ x ∧ (∀ y ∈ xs, minF x xs ≤ y) ∧ (minF x xs = x ∨ minF x xs ∈ xs)
  | [], x => ⟨Int.le_refl _, fun y h => (by cases h), .inl rfl⟩
  | z :: xs, x => by
    have e : minF x (z :: xs) = minF (if z < x then z else x) xs := rfl
    obtain ⟨h1, h2, h3⟩ := minF_le xs (if z < x then z else x)
    rw [e]
    by_cases c : z < x
    · rw [if_pos c] at h1 h2 h3 ⊢
      exact ⟨by omega, fun y hy => (List.mem_cons.mp hy).elim (fun q => by rw [q]; exact h1) (h2 y), .inr (h3.elim (fun q => by rw [q]; exact List.mem_cons_self) (List.mem_cons_of_mem _))⟩
    · rw [if_neg c] at h1 h2 h3 ⊢
      exact ⟨h1, fun y hy => (List.mem_cons.mp hy).elim (fun q => by rw [q]; omega) (h2 y), h3.imp id (List.mem_cons_of_mem _)⟩
theorem maxF_le : ∀ (xs : List Int) (x : Int), x ≤ maxF x xs ∧ (∀ y ∈ xs, y ≤ maxF x xs) ∧ (maxF x xs = x ∨ maxF x xs ∈ xs)
  | [], x => ⟨Int.le_refl _, fun y h => (by cases h), .inl rfl⟩
  | z :: xs, x => by
    have e : maxF x (z :: xs) = maxF (if x < z then z else x) xs := rfl
    obtain ⟨h1, h2, h3⟩ := maxF_le xs (if x < z then z else x)
    rw [e]
    by_cases c : x < z
    · rw [if_pos c] at h1 h2 h3 ⊢
      exact ⟨by omega, fun y hy => (List.mem_cons.mp hy).elim (fun q => by rw [q]; exact h1) (h2 y), .inr (h3.elim (fun q => by rw [q]; exact List.mem_cons_self) (List.mem_cons_of_mem _))⟩
    · rw [if_neg c] at h1 h2 h3 ⊢
      exact ⟨h1, fun y hy => (List.mem_cons.mp hy).elim (fun q => by rw [q]; omega) (h2 y), h3.imp id (List.mem_cons_of_mem _)⟩
def minI : List Int → Res Int
  | [] => .bad
  | x :: xs => .ok (minF x xs)
def maxI : List Int → Res Int
  | [] => .bad
  | x :: xs => .ok (maxF x xs)
def minDf (d : Int) : List Int → Int
  | [] => d
  | x :: xs => minF x xs
/-! ### sorted(set(xs)) -/
def insU (x : Int) : List Int → List Int
  | [] => [x]
  | y :: ys => if x < y then x :: y :: ys else if x = y then y :: ys else y :: insU x ys
def sortU (ns : List Int) : List Int := ns.foldr insU []
theorem mem_insU {x z : Int} : ∀ ys : List Int, z ∈ insU x ys ↔ z = x ∨ z ∈ ys
  | [] => by simp [insU]
  | y :: ys => by
    unfold insU
    split
    · simp
    · split
      · rename_i h
        subst h
        simp
      · rw [List.mem_cons, mem_insU ys, List.mem_cons]
        constructor
        · rintro (h | h | h)
          · exact .inr (.inl h)
          · exact .inl h
          · exact .inr (.inr h)
        · rintro (h | h | h)
          · exact .inr (.inl h)
          · exact .inl h
          · exact .inr (.inr h)
theorem mem_sortU {z : Int} : ∀ ns : List Int, z ∈ sortU ns ↔ z ∈ ns
  | [] => Iff.rfl
  | n :: ns => by
    show z ∈ insU n (sortU ns) ↔ _
    rw [mem_insU, mem_sortU ns, List.mem_cons]
theorem insU_lt {x : Int} : ∀ {ys : List Int}, ys.Pairwise (· < ·) → (insU x ys).Pairwise (· < ·)
  | [], _ => by simp [insU]
  | y :: ys, h => by
    obtain ⟨h1, h2⟩ := List.pairwise_cons.mp h
    unfold insU
    split
    · rename_i c
      exact List.pairwise_cons.mpr ⟨fun z hz => (List.mem_cons.mp hz).elim (fun e => by rw [e]; exact c) fun e => Int.lt_trans c (h1 z e), h⟩
    · split
      · exact h
      · rename_i c d
        exact List.pairwise_cons.mpr ⟨fun z hz => ((mem_insU ys).mp hz).elim (fun e => by rw [e]; omega) (h1 z), insU_lt h2⟩
theorem sortU_lt : ∀ ns : List Int, (sortU ns).Pairwise (· < ·)
  | [] => .nil
  | n :: ns => insU_lt (sortU_lt ns)
theorem lt_uniq : ∀ {a b : List Int}, a.Pairwise (· < ·) → b.Pairwise (· < ·) → (∀ z, z ∈ a ↔ z ∈ b) → a = b
  | [], [], _, _, _ => rfl
  | [], y :: b, _, _, h => absurd ((h y).mpr List.mem_cons_self) (by simp)
  | x :: a, [], _, _, h => absurd ((h x).mp List.mem_cons_self) (by simp)
  | x :: a, y :: b, ha, hb, h => by
    obtain ⟨a1, a2⟩ := List.pairwise_cons.mp ha
    obtain ⟨b1, b2⟩ := List.pairwise_cons.mp hb
    have e : x = y := by
      rcases List.mem_cons.mp ((h x).mp List.mem_cons_self) with e | e
      · exact e
      · rcases List.mem_cons.mp ((h y).mpr List.mem_cons_self) with f | f
        · exact f.symm
        · have := b1 x e
          have := a1 y f
          omega
    subst e
    rw [lt_uniq a2 b2 fun z => ?_]
    constructor
    · intro hz
      rcases List.mem_cons.mp ((h z).mp (List.mem_cons_of_mem _ hz)) with e | e
      · have := a1 z hz
        omega
      · exact e
    · intro hz
      rcases List.mem_cons.mp ((h z).mpr (List.mem_cons_of_mem _ hz)) with e | e
      · have := b1 z hz
        omega
      · exact e
def SsG (K : PySem.W.Frag) (v : V) (H1 : Hp) (Q : VK) : Prop := ∃ (a : Addr) (ns : List Int), v = .ref a ∧ (SqL K H1 a (ns.map V.int) ∨ SqT K H1 a (ns.map V.int)) ∧ ns.length < 64 ∧ ∀ p, H1 p = none → Q (.ref p) (upd H1 p (.lst ((sortU ns).map V.int)))
def tSortSet (K : PySem.W.Frag) (te : TE) : TE := fun σ H Q => te σ H fun v H1 => SsG K v H1 Q
def tSeqI (K : PySem.W.Frag) (te : TE) : TI := fun σ H R => te σ H fun v H1 => ∃ a, v = .ref a ∧ (((∃ xs, SqL K H1 a xs) ∧ R (Itl K a) H1) ∨ ((∃ xs, SqT K H1 a xs) ∧ R (Itt K a) H1))
theorem small_scan {n : Nat} (h : n < 64) : n + 1 < scanBound := by unfold scanBound; omega
section
variable {X : Cx}
theorem sorted_end {pins : List (Addr × Obj)} {σ : L2.St} {H : Hp} {s : Shared} {Q : VK} {ns : List Int} {c : Nat} {b : Addr} (hc : X.calm = true) (I : Inv X pins σ H s) (S : SetR X.w s.heap b (fun j => decide (j ∈ ns)) c) (h64 : c < 64)
    (q : ∀ p, H p = none → Q (.ref p) (upd H p (.lst ((sortU ns).map V.int)))) : wpAny (model X.prog X.w) X.A (call (.builtin "sorted") [.ref b]) (EP X pins σ Q) X.xe s := by
  refine sorted_set S (I.ok.hd hc) h64 fun s2 p out c2 ms keep eg eo hp hget hints hlt hmem hlen => ?_
  have em : ms = sortU ns := lt_uniq hlt (sortU_lt ns) fun z => (hmem z).trans (by rw [mem_sortU]; exact decide_eq_true_iff)
  have fits : (ms.map V.int).length ≤ sizeLine := by rw [List.length_map, hlen, sizeLine_eq]; omega
  have free : H p = none := I.hok.fresh hp
  have J : Inv X pins σ (upd H p (.lst (ms.map V.int))) { s with heap := s2.heap, gens := s2.gens, drawn := s2.drawn, toks := s2.toks } :=
    I.call (ch := []) (Un.laid keep hp free) (I.hok.laid keep hp ⟨fits, out.toList, c2, vals_of_ints hints, hget⟩) (by rw [eg]; exact I.bare) (fun _ z => nomatch z)
  have es : s2 = { s with heap := s2.heap, gens := s2.gens, drawn := s2.drawn, toks := s2.toks } := by
    obtain ⟨_, _, _, _, _⟩ := s2
    obtain ⟨_, _, _, _, _⟩ := s
    cases eo
    rfl
  rw [es]
  subst em
  exact ⟨.ref p, _, J, rfl, q p free⟩
theorem pe_sortSet {e : Expr} {te : TE} {p p2 pos pos2 : Pos} (hg : Gl X "sorted") (hm : X.mg "sorted" = none) (hg2 : Gl X "set") (hm2 : X.mg "set" = none) (he : PE X e te) (hc : X.calm = true := by rfl)
    (na : starEach [e] X.env = (false, eval e X.env) :: starEach [] X.env := by rfl) : PE X (.Call (.Name "sorted" p) [.Call (.Name "set" p2) [e] [] pos2] [] pos) (tSortSet X.K te) := by
  refine ⟨fun pins s σ H Q I h => Call_ (ld_blt I hg hm PyProof.Rows.boot_sorted (PyProof.Rows.callWith_builtin1 (PyProof.Rows.args_cons (Call_ (ld_blt I hg2 hm2 PyProof.Rows.boot_set ?_)) rfl) rfl rfl))⟩
  refine PyProof.Rows.callWith_type1 (PyProof.Rows.args_cons (thn (he.run pins s σ H _ I h) fun v s1 ⟨x, H1, I1, r1, l, ns, ex, hq, h64, q⟩ => PyProof.Rows.args_nil ?_) na) na rfl
  subst ex
  cases r1
  rcases hq with hq | hq
  · obtain ⟨its, rv, pl, hz⟩ := I1.list hq
    refine set_listI ns (I1.ok.hd hc) pl.isList (by simpa using rv.ints) (small_scan h64) fun h2 tk c S lc keep => PyProof.Rows.args_nil ?_
    exact sorted_end hc (I1.kept fun b o eo => keep b o eo) S (Nat.lt_of_le_of_lt lc h64) q
  · obtain ⟨its, rv, pl, hz⟩ := I1.tuple hq
    refine call_set_tupI ns (I1.ok.hd hc) pl (by simpa using rv.ints) (small_scan h64) fun h2 tk c S lc keep => PyProof.Rows.args_nil ?_
    exact sorted_end hc (I1.kept fun b o eo => keep b o eo) S (Nat.lt_of_le_of_lt lc h64) q
/-- over a list or a tuple -/
theorem pi_seq {tg e : Expr} {te : TE} (he : PE X e te) : PI X tg e (tSeqI X.K te) := by
  refine ⟨fun pins s σ H R I h => thn (he.run pins s σ H _ I h) fun u s1 ⟨y, H1, I1, r1, l, ey, q⟩ => ?_⟩
  subst ey
  cases r1
  have fp : ∀ b ∈ [s1.heap.objs.size], _ := fun b hb => by
    have eb : b = s1.heap.objs.size := List.mem_singleton.mp hb
    exact eb ▸ I1.fpOk (H' := H1) (Nat.le_refl _) (I1.hok.fresh (Nat.le_refl _))
  rcases q with ⟨⟨xs, hq⟩, q⟩ | ⟨⟨xs, hq⟩, q⟩
  · obtain ⟨its, rv, pl, hz⟩ := I1.list hq
    exact wpAny_pyIter_list pl.isList ⟨_, [s1.heap.objs.size], _, _, H1, rfl, I1.kept (t' := s1.toks) fun b o eo => Heap.get?_push_of_some _ eo, turn_list l _, ⟨_, Heap.get?_push_size _ rfl, rfl, rfl⟩, fp, q⟩
  · obtain ⟨its, rv, pl, hz⟩ := I1.tuple hq
    exact wpAny_pyIter_tuple (show s1.heap.IsTuple l its.toArray from pl) ⟨_, [s1.heap.objs.size], _, _, H1, rfl, I1.kept (t' := s1.toks) fun b o eo => Heap.get?_push_of_some _ eo, turn_tuple l _, ⟨_, Heap.get?_push_size _ rfl, rfl, rfl⟩, fp, q⟩
/-! ### min(xs, default=d) -/
theorem dpInt {K : PySem.W.Frag} {H : Hp} : ∀ xs : List Int, DpAll K H (xs.map V.int) (xs.map PyData.int)
  | [] => .nil
  | x :: xs => .cons (.int _) (dpInt xs)
def rMinDf (K : PySem.W.Frag) : List V → List V → Hp → VK → Prop := fun vs zs H Q => ∃ (a : Addr) (ns : List Int) (d : Int), vs = [V.ref a] ∧ zs = [V.int d] ∧ SqL K H a (ns.map V.int) ∧ Q (.int (minDf d ns)) H
theorem cr_minDf (hc : X.calm = true) (hu : X.A.units + 64 < cLine) : CallRK X (.builtin "min") [Str.ofString "default"] (rMinDf X.K) := by
  intro pins s σ H vs zs us ws Q I r rz h
  obtain ⟨a, ns, d, rfl, rfl, hs, q⟩ := h
  obtain ⟨its, rv, hl, _⟩ := I.list hs
  obtain rfl := Vals.ref1 r
  obtain ⟨w1, rfl, td, e1⟩ := vals1 rz
  obtain ⟨as, ra⟩ := Dp.readsAll I _ _ _ (dpInt ns) rv
  subst e1
  refine PySem.W.min_list_datum_default (α := Int) (xs := ns) (I.ok.hd hc) hl.isList ⟨as, (show ReadsAll s.heap its.toArray.toList (ns.map PyData.int) as from ra)⟩ (by show _ + 1 + 0 < _; omega) (fun e h' tk hk => ?_) fun y ys i v h' tk e hv ho hk => ?_
  · subst e
    exact ⟨.int _, H, I.kept hk, ⟨_, rfl⟩, q⟩
  · subst e
    obtain ⟨bs, rd⟩ := ho
    have q : Q (.int (PySem.W.minOf y ys)) H := by
      have e2 : PySem.W.minOf y ys = minDf d (y :: ys) := by
        show ys.foldl _ y = ys.foldl _ y
        congr 1
        funext a z
        show (if decide (z < a) = true then z else a) = _
        by_cases c : z < a <;> simp [c]
      rw [e2]
      exact q
    generalize PySem.W.minOf y ys = m at rd q
    cases rd
    exact ⟨.int _, H, I.kept hk, ⟨_, rfl⟩, q⟩
end
end M
namespace M
open PySem PySem.Spec PyProof.Rows L2
def lSortU (ns : List Int) : Res (List Int) := if ns.length < 64 then .ok (sortU ns) else .bad
section
variable {K : PySem.W.Frag} {mg : Str → Option Value} {I H I' H' : Hp} {σ σ' ρ : List (Option V)} {Γ Γ' Θ : List Cell} {i j n : Nat} {v v1 v2 v3 : V} {c c1 c2 : Cell} {o : Option V} {te tl ti to td : TE} {ta : TA} {tt : TT} {t u : TS} {dn db dc : L2.St → Hp → Prop} {dr : VK} {Q : VK} {W : WX}
variable {ω : Type} {P : ω → Prop} {X : Exn → Prop} {α β γ δ : Type} {pn : Option V}
/-! ### a list or a tuple -/
theorem Env.listSeq [Rep α] {xs : List α} (E : Env K I H σ Γ (some v :: ρ) (.im xs :: Θ)) : Env K I H σ Γ (some v :: ρ) (.im (SeqL.mk xs) :: Θ) := E.pop.push (a := SeqL.mk xs) (by
  obtain ⟨a, vs, rfl, hq, p⟩ := E.topR
  exact ⟨a, vs, rfl, .inl hq, p⟩)
theorem Env.tupSeq [Rep α] {xs : TupL α} (E : Env K I H σ Γ (some v :: ρ) (.im xs :: Θ)) : Env K I H σ Γ (some v :: ρ) (.im (SeqL.mk xs.l) :: Θ) := E.pop.push (a := SeqL.mk xs.l) (by
  obtain ⟨a, vs, rfl, hq, p⟩ := E.topR
  exact ⟨a, vs, rfl, .inr hq, p⟩)
theorem seq_at [Rep α] {xs : SeqL α} (r : Rep.rp K I v xs) (s : Same I H) : ∃ a vs, v = .ref a ∧ (SqL K H a vs ∨ SqT K H a vs) ∧ Paired (fun v x => Rep.rp K I v x) vs xs.l := by
  obtain ⟨a, vs, e, h, p⟩ := r
  exact ⟨a, vs, e, h.imp (fun h => SqL.of (s _ _ h)) (same_seqT s), p⟩
theorem hf_lenS [Rep α] {xs : SeqL α} (hΓ : Γ[j]? = some (.im xs)) : HF K (tCB (rLen2 K) (tCons (tVar j) tNil)) Γ (.ok ((xs.l.length : Nat) : Int)) := .mk fun X Q E q => by
  obtain ⟨v, hs, r⟩ := E.get hΓ
  obtain ⟨a, vs, e, ha, p⟩ := seq_at r E.same
  subst e
  refine ⟨_, hs, a, vs, rfl, ha, ?_⟩
  have hl : vs.length = xs.l.length := Paired.length p
  rw [hl]
  exact q trivial
theorem st_lenS [Rep α] {xs : SeqL α} (E : Env K I H σ Γ (some v :: ρ) (.im xs :: Θ)) (next : ∀ v, Env K I H σ Γ (some v :: ρ) (.im ((xs.l.length : Nat) : Int) :: Θ) → Q v H) : CbG (rLen2 K) [v] H Q := by
  obtain ⟨a, vs, e, ha, p⟩ := seq_at E.topR E.same
  subst e
  have hl : vs.length = xs.l.length := Paired.length p
  exact ⟨a, vs, rfl, ha, next _ (E.pop.pushS (a := ((vs.length : Nat) : Int)) trivial |> fun z => by rw [← hl]; exact z)⟩
def SqIG (K : PySem.W.Frag) (v : V) (H1 : Hp) (R : It → Hp → Prop) : Prop := ∃ a, v = .ref a ∧ (((∃ xs, SqL K H1 a xs) ∧ R (Itl K a) H1) ∨ ((∃ xs, SqT K H1 a xs) ∧ R (Itt K a) H1))
theorem uSqI {R : It → Hp → Prop} (h : te σ H fun v H1 => SqIG K v H1 R) : tSeqI K te σ H R := h
theorem it_seq [Rep α] {R : It → Hp → Prop} {xs : SeqL α} (E : Env K I H σ Γ (some v :: ρ) (.im xs :: Θ)) (next : ∀ J c, Env K I H σ Γ (some v :: ρ) (c :: Θ) → Feeds K J xs.l [some v] [c] → R J H) : SqIG K v H R := by
  obtain ⟨a, vs, e, h, p⟩ := E.topR
  subst e
  rcases h with h | h
  · have E2 : Env K I H σ Γ (some (.ref a) :: ρ) (.im xs.l :: Θ) := E.pop.push (a := xs.l) ⟨a, vs, rfl, h, p⟩
    obtain ⟨b, e, hs, r⟩ := it_list (R := fun a => R (Itl K a) H) E2 fun a F => next _ _ E2 F
    exact ⟨b, e, .inl ⟨hs, r⟩⟩
  · have E2 : Env K I H σ Γ (some (.ref a) :: ρ) (.im (TupL.mk xs.l) :: Θ) := E.pop.push (a := TupL.mk xs.l) ⟨a, vs, rfl, h, p⟩
    obtain ⟨b, e, hs, r⟩ := it_tup (R := fun a => R (Itt K a) H) E2 fun a F => next _ _ E2 F
    exact ⟨b, e, .inr ⟨hs, r⟩⟩
theorem st_listSI [Rep α] {xs : SeqL α} (E : Env K I H σ Γ (some v :: ρ) (.im xs :: Θ)) (next : ∀ I' H' v, Env K I' H' σ Γ (some v :: ρ) (.im xs.l :: Θ) → Q v H') : CbG (rListOf K) [v] H Q := by
  obtain ⟨a, vs, rfl, ha, p⟩ := seq_at E.topR E.same
  exact ⟨a, vs, rfl, ha, st_newI (Env.pop E) p next⟩
theorem st_listSO [Rep α] {xs : SeqL α} (E : Env K I H σ Γ (some v :: ρ) (.im xs :: Θ)) (next : ∀ H' v, Env K I H' σ Γ (some v :: ρ) (.own xs.l :: Θ) → Q v H') : CbG (rListOf K) [v] H Q := by
  obtain ⟨a, vs, rfl, ha, p⟩ := seq_at E.topR E.same
  exact ⟨a, vs, rfl, ha, st_newO (Env.pop E) p next⟩
/-! ### sorted(set(xs)) -/
theorem uSortSet (h : te σ H fun v H1 => SsG K v H1 Q) : tSortSet K te σ H Q := h
theorem st_sortUI {xs : SeqL Int} {k : List Int → Res ω} (E : Env K I H σ Γ (some v :: ρ) (.im xs :: Θ)) (h : wp ((lSortU xs.l).bind k) P X) (next : ∀ xs' I' H' v, Env K I' H' σ Γ (some v :: ρ) (.im xs' :: Θ) → wp (k xs') P X → Q v H') : SsG K v H Q := by
  obtain ⟨a, vs, rfl, ha, p⟩ := seq_at E.topR E.same
  unfold lSortU at h
  split at h
  · rename_i h64
    refine ⟨a, xs.l, rfl, by rw [← ints_rp p]; exact ha, h64, fun q np => ?_⟩
    exact st_newI (Env.pop E) (rp_ints (sortU xs.l)) (fun I' H' v E => next _ I' H' v E h) q np
  · exact h.elim
theorem st_sortUO {xs : SeqL Int} {k : List Int → Res ω} (E : Env K I H σ Γ (some v :: ρ) (.im xs :: Θ)) (h : wp ((lSortU xs.l).bind k) P X) (next : ∀ xs' H' v, Env K I H' σ Γ (some v :: ρ) (.own xs' :: Θ) → wp (k xs') P X → Q v H') : SsG K v H Q := by
  obtain ⟨a, vs, rfl, ha, p⟩ := seq_at E.topR E.same
  unfold lSortU at h
  split at h
  · rename_i h64
    refine ⟨a, xs.l, rfl, by rw [← ints_rp p]; exact ha, h64, fun q np => ?_⟩
    exact st_newO (Env.pop E) (rp_ints (sortU xs.l)) (fun H' v E => next _ H' v E h) q np
  · exact h.elim
/-! ### gcd, min, max -/
theorem hc_gcd {x y : Int} : HC2 rGcd x y (.ok ((Nat.gcd x.natAbs y.natAbs : Nat) : Int)) := .mk fun X Q _ _ q => ⟨x, y, rfl, q trivial⟩
theorem min_uniq {x m : Int} {xs : List Int} (h1 : m ∈ x :: xs) (h2 : ∀ y ∈ x :: xs, m ≤ y) : m = minF x xs := by
  obtain ⟨a, b, c⟩ := minF_le xs x
  have e1 : minF x xs ≤ m := (List.mem_cons.mp h1).elim (fun e => by rw [e]; exact a) (b m)
  have e2 : m ≤ minF x xs := h2 _ (c.elim (fun e => by rw [e]; exact List.mem_cons_self) (List.mem_cons_of_mem _))
  omega
theorem max_uniq {x m : Int} {xs : List Int} (h1 : m ∈ x :: xs) (h2 : ∀ y ∈ x :: xs, y ≤ m) : m = maxF x xs := by
  obtain ⟨a, b, c⟩ := maxF_le xs x
  have e1 : m ≤ maxF x xs := (List.mem_cons.mp h1).elim (fun e => by rw [e]; exact a) (b m)
  have e2 : maxF x xs ≤ m := h2 _ (c.elim (fun e => by rw [e]; exact List.mem_cons_self) (List.mem_cons_of_mem _))
  omega
theorem hf_min_of {xs : List Int} (hv : ∀ {I H : Hp} {σ ρ : List (Option V)} {Θ : List Cell}, Env K I H σ Γ ρ Θ → ∃ a vs, σ[j]? = some (some (.ref a)) ∧ H a = some (.lst vs) ∧ Paired (fun v x => Rep.rp K I v x) vs xs) : HF K (tCB (rMin K) (tCons (tVar j) tNil)) Γ (minI xs) := .mk fun X Q E q => by
  obtain ⟨a, vs, hs, ha, p⟩ := hv E
  cases xs with
  | nil => exact q.elim
  | cons x xs =>
    refine ⟨_, hs, a, x :: xs, rfl, by rw [← ints_of p]; exact SqL.of ha, Nat.succ_pos _, fun m h1 h2 => ?_⟩
    rw [min_uniq h1 h2]
    exact q trivial
theorem hf_minL {xs : List Int} (hΓ : Γ[j]? = some (.im xs)) : HF K (tCB (rMin K) (tCons (tVar j) tNil)) Γ (minI xs) := hf_min_of fun E => E.listAt hΓ
theorem hf_minO {xs : List Int} (hΓ : Γ[j]? = some (.own xs pn)) : HF K (tCB (rMin K) (tCons (tVar j) tNil)) Γ (minI xs) := hf_min_of fun E => E.ownAt' hΓ
theorem hf_max_of {xs : List Int} (hv : ∀ {I H : Hp} {σ ρ : List (Option V)} {Θ : List Cell}, Env K I H σ Γ ρ Θ → ∃ a vs, σ[j]? = some (some (.ref a)) ∧ H a = some (.lst vs) ∧ Paired (fun v x => Rep.rp K I v x) vs xs) : HF K (tCB (rMax K) (tCons (tVar j) tNil)) Γ (maxI xs) := .mk fun X Q E q => by
  obtain ⟨a, vs, hs, ha, p⟩ := hv E
  cases xs with
  | nil => exact q.elim
  | cons x xs =>
    refine ⟨_, hs, a, x :: xs, rfl, by rw [← ints_of p]; exact SqL.of ha, Nat.succ_pos _, fun m h1 h2 => ?_⟩
    rw [max_uniq h1 h2]
    exact q trivial
theorem hf_maxL {xs : List Int} (hΓ : Γ[j]? = some (.im xs)) : HF K (tCB (rMax K) (tCons (tVar j) tNil)) Γ (maxI xs) := hf_max_of fun E => E.listAt hΓ
theorem hf_maxO {xs : List Int} (hΓ : Γ[j]? = some (.own xs pn)) : HF K (tCB (rMax K) (tCons (tVar j) tNil)) Γ (maxI xs) := hf_max_of fun E => E.ownAt' hΓ
theorem st_minI {xs : List Int} {k : Int → Res ω} (E : Env K I H σ Γ (some v :: ρ) (.im xs :: Θ)) (h : wp ((minI xs).bind k) P X) (next : ∀ m v, Env K I H σ Γ (some v :: ρ) (.im m :: Θ) → wp (k m) P X → Q v H) : CbG (rMin K) [v] H Q := by
  obtain ⟨a, vs, rfl, ha, p⟩ := E.topR
  cases xs with
  | nil => exact h.elim
  | cons x xs =>
    refine ⟨a, x :: xs, rfl, by rw [← ints_of p]; exact SqL.of (E.same _ _ ha), Nat.succ_pos _, fun m h1 h2 => ?_⟩
    rw [min_uniq h1 h2]
    exact next _ _ (E.pop.pushS (a := minF x xs) trivial) h
theorem st_maxI {xs : List Int} {k : Int → Res ω} (E : Env K I H σ Γ (some v :: ρ) (.im xs :: Θ)) (h : wp ((maxI xs).bind k) P X) (next : ∀ m v, Env K I H σ Γ (some v :: ρ) (.im m :: Θ) → wp (k m) P X → Q v H) : CbG (rMax K) [v] H Q := by
  obtain ⟨a, vs, rfl, ha, p⟩ := E.topR
  cases xs with
  | nil => exact h.elim
  | cons x xs =>
    refine ⟨a, x :: xs, rfl, by rw [← ints_of p]; exact SqL.of (E.same _ _ ha), Nat.succ_pos _, fun m h1 h2 => ?_⟩
    rw [max_uniq h1 h2]
    exact next _ _ (E.pop.pushS (a := maxF x xs) trivial) h
theorem hf_minDfL {xs : List Int} {d : Int} (hΓ : Γ[j]? = some (.im xs)) (hd : HF K td Γ (.ok d)) : HF K (tCKw (rMinDf K) (tCons (tVar j) tNil) (tCons td tNil)) Γ (.ok (minDf d xs)) := .mk fun X Q E q => by
  obtain ⟨a, vs, hs, ha, p⟩ := E.listAt hΓ
  exact ⟨_, hs, hd.run X _ E fun _ => ⟨a, xs, d, rfl, rfl, by rw [← ints_of p]; exact SqL.of ha, q trivial⟩⟩
/-! ### all(..), is True, a pair's parts -/
theorem bls_of : ∀ {vs : List V} {xs : List Bool}, Paired (fun v x => Rep.rp K I v x) vs xs → vs = xs.map V.bl
  | _, _, .nil => rfl
  | _, _, .cons r t => by
    have r' : _ = V.bl _ ∧ True := r
    rw [r'.1, bls_of t]
    rfl
theorem st_all {xs : List Bool} (E : Env K I H σ Γ (some v :: ρ) (.im xs :: Θ)) (next : ∀ v, Env K I H σ Γ (some v :: ρ) (.im (xs.all id) :: Θ) → Q v H) : CbG (rAll K) [v] H Q := by
  obtain ⟨a, vs, rfl, ha, p⟩ := E.topR
  exact ⟨a, xs, rfl, by rw [← bls_of p]; exact SqL.of (E.same _ _ ha), next _ (E.pop.pushS (a := xs.all id) trivial)⟩
theorem hr_isB {x y : Bool} : HR rIsB x y (.ok (decide (x = y))) := .mk fun X Q _ _ q => ⟨x, y, rfl, rfl, q trivial⟩
theorem hr_notB {x y : Bool} : HR rNotB x y (.ok (!decide (x = y))) := .mk fun X Q _ _ q => ⟨x, y, rfl, rfl, q trivial⟩
theorem hf_ixP0 [Sca α] [Rep β] {x : α × β} (hΓ : Γ[j]? = some (.im x)) : HF K (tOp (rIxT K) (tVar j) (tC (.int 0))) Γ (.ok x.1) := .mk fun X Q E q => by
  obtain ⟨v, hs, a, v1, v2, e, ha, p1, p2⟩ := E.get hΓ
  subst e
  refine ⟨_, hs, a, [v1, v2], 0, v1, rfl, rfl, same_seqT E.same ha, rfl, ?_⟩
  rw [p1.1]
  exact q p1.2
theorem hf_ixP1 [Rep α] [Sca β] {x : α × β} (hΓ : Γ[j]? = some (.im x)) : HF K (tOp (rIxT K) (tVar j) (tC (.int 1))) Γ (.ok x.2) := .mk fun X Q E q => by
  obtain ⟨v, hs, a, v1, v2, e, ha, p1, p2⟩ := E.get hΓ
  subst e
  refine ⟨_, hs, a, [v1, v2], 1, v2, rfl, rfl, same_seqT E.same ha, rfl, ?_⟩
  rw [p2.1]
  exact q p2.2
theorem st_ixP0 [Rep α] [Rep β] {x : α × β} (E : Env K I H σ Γ ρ Θ) (hΓ : Γ[j]? = some (.im x)) (next : ∀ v, Env K I H σ Γ (some v :: ρ) (.im x.1 :: Θ) → Q v H) : tOp (rIxT K) (tVar j) (tC (.int 0)) σ H Q := by
  obtain ⟨v, hs, a, v1, v2, e, ha, p1, p2⟩ := E.get hΓ
  subst e
  exact ⟨_, hs, a, [v1, v2], 0, v1, rfl, rfl, same_seqT E.same ha, rfl, next v1 (E.push p1)⟩
theorem st_ixP1 [Rep α] [Rep β] {x : α × β} (E : Env K I H σ Γ ρ Θ) (hΓ : Γ[j]? = some (.im x)) (next : ∀ v, Env K I H σ Γ (some v :: ρ) (.im x.2 :: Θ) → Q v H) : tOp (rIxT K) (tVar j) (tC (.int 1)) σ H Q := by
  obtain ⟨v, hs, a, v1, v2, e, ha, p1, p2⟩ := E.get hΓ
  subst e
  exact ⟨_, hs, a, [v1, v2], 1, v2, rfl, rfl, same_seqT E.same ha, rfl, next v2 (E.push p2)⟩
/-! ### reversed(xs) -/
def RvIG (K : PySem.W.Frag) (vs : List V) (H1 : Hp) (R : It → Hp → Prop) : Prop := ∃ (a : Addr) (xs : List V), vs = [.ref a] ∧ SqL K H1 a xs ∧ R (Itv K a xs.length) H1
theorem uRevI {R : It → Hp → Prop} (h : ta σ H fun vs H1 => RvIG K vs H1 R) : iRev K ta σ H R := h
theorem it_rev [Rep α] {R : It → Hp → Prop} {xs : List α} (E : Env K I H σ Γ (some v :: ρ) (.im xs :: Θ)) (next : ∀ J, Feeds K J xs.reverse [some v] [.im xs] → R J H) : RvIG K [v] H R := by
  obtain ⟨a, vs, e, hq, pr⟩ := E.topR
  subst e
  have ln : vs.length = xs.length := Paired.length pr
  refine ⟨a, vs, rfl, SqL.of (E.same _ _ hq), next _ ⟨rfl, fun {_ _} {_ _} {_ _} i E' hi => ?_, fun {I H} {_ _} {_ _} i x H' b E' hx hy => ?_, fun {_ _} {_ _} {_ _} i E' hi => ?_⟩⟩
  · obtain ⟨b, ws, e, hq', pr'⟩ := E'.topR
    cases e
    have hl : ws.length = xs.length := Paired.length pr'
    rw [List.length_reverse] at hi
    exact ⟨by omega, ws, ws[vs.length - 1 - i]'(by omega), SqL.of (E'.same _ _ hq'), List.getElem?_eq_getElem (by omega)⟩
  · obtain ⟨b', ws, e, hq', pr'⟩ := E'.topR
    cases e
    obtain ⟨rfl, hy⟩ := hy
    have hl : ws.length = xs.length := Paired.length pr'
    have hi : i < xs.length := by
      have := (List.getElem?_eq_some_iff.mp hx).1
      rw [List.length_reverse] at this
      exact this
    rw [List.getElem?_reverse hi] at hx
    exact ⟨I, Grow.refl E'.same, paired_at pr' (hy _ (SqL.of (E'.same _ _ hq'))) (by rw [ln]; exact hx)⟩
  · rw [List.length_reverse] at hi
    show vs.length ≤ i
    omega
end
end M
namespace M
open PySem PySem.Spec PyProof.Rows L2
/-! ### lists of a few things of unlike types -/
structure ML2 (α β : Type) where
  a : α
  b : β
instance repML2 {α β : Type} [Rep α] [Rep β] : Rep (ML2 α β) where
  rp K I v x := ∃ p v1 v2, v = .ref p ∧ I p = some (.lst [v1, v2]) ∧ Rep.rp K I v1 x.a ∧ Rep.rp K I v2 x.b
  mono := fun e ⟨p, v1, v2, e1, h, r1, r2⟩ => ⟨p, v1, v2, e1, e _ _ h, Rep.mono e r1, Rep.mono e r2⟩
structure ML3 (α β γ : Type) where
  a : α
  b : β
  c : γ
instance repML3 {α β γ : Type} [Rep α] [Rep β] [Rep γ] : Rep (ML3 α β γ) where
  rp K I v x := ∃ p v1 v2 v3, v = .ref p ∧ I p = some (.lst [v1, v2, v3]) ∧ Rep.rp K I v1 x.a ∧ Rep.rp K I v2 x.b ∧ Rep.rp K I v3 x.c
  mono := fun e ⟨p, v1, v2, v3, e1, h, r1, r2, r3⟩ => ⟨p, v1, v2, v3, e1, e _ _ h, Rep.mono e r1, Rep.mono e r2, Rep.mono e r3⟩
structure ML4 (α β γ δ : Type) where
  a : α
  b : β
  c : γ
  d : δ
instance repML4 {α β γ δ : Type} [Rep α] [Rep β] [Rep γ] [Rep δ] : Rep (ML4 α β γ δ) where
  rp K I v x := ∃ p v1 v2 v3 v4, v = .ref p ∧ I p = some (.lst [v1, v2, v3, v4]) ∧ Rep.rp K I v1 x.a ∧ Rep.rp K I v2 x.b ∧ Rep.rp K I v3 x.c ∧ Rep.rp K I v4 x.d
  mono := fun e ⟨p, v1, v2, v3, v4, e1, h, r1, r2, r3, r4⟩ => ⟨p, v1, v2, v3, v4, e1, e _ _ h, Rep.mono e r1, Rep.mono e r2, Rep.mono e r3, Rep.mono e r4⟩
section
variable {K : PySem.W.Frag} {mg : Str → Option Value} {I H I' H' : Hp} {σ σ' ρ : List (Option V)} {Γ Γ' Θ : List Cell} {i j n : Nat} {v v1 v2 v3 v4 : V} {Q : VK} {ω : Type} {P : ω → Prop} {X : Exn → Prop} {α β γ δ : Type}
theorem st_mk2 [Rep α] [Rep β] {x1 : α} {x2 : β} (E : Env K I H σ Γ (some v2 :: some v1 :: ρ) (.im x2 :: .im x1 :: Θ)) (next : ∀ I' H' v, Env K I' H' σ Γ (some v :: ρ) (.im (ML2.mk x1 x2) :: Θ) → Q v H') : LsG [v1, v2] H Q := by
  refine ⟨line_of (by decide : (2 : Nat) ≤ line), fun p hp => ?_⟩
  have r2 := E.topR
  have r1 := E.pop.topR
  have E2 := E.pop.pop
  have m : ∀ {γ : Type} [Rep γ] {v : V} {z : γ}, Rep.rp K I v z → Rep.rp K (upd I p (.lst [v1, v2])) v z := fun q => Rep.mono (fun a o e => by rw [upd_ne (ne_of_none e (E2.2.2.none_of hp))]; exact e) q
  exact next _ _ _ ((E2.grow (Grow.newI (u := .lst [v1, v2]) E2.same hp)).push ⟨p, v1, v2, rfl, upd_same, m r1, m r2⟩)
theorem st_ixM2_0 [Rep α] [Rep β] {x : ML2 α β} (E : Env K I H σ Γ ρ Θ) (hΓ : Γ[j]? = some (.im x)) (next : ∀ v, Env K I H σ Γ (some v :: ρ) (.im x.a :: Θ) → Q v H) : tOp (rIxL K) (tVar j) (tC (.int 0)) σ H Q := by
  obtain ⟨v, hs, a, v1, v2, e, ha, p1, p2⟩ := E.get hΓ
  subst e
  exact ⟨_, hs, a, [v1, v2], 0, v1, rfl, rfl, SqL.of (E.same _ _ ha), rfl, next v1 (E.push p1)⟩
theorem hf_ixM2_0 [Sca α] [Rep β] {x : ML2 α β} (hΓ : Γ[j]? = some (.im x)) : HF K (tOp (rIxL K) (tVar j) (tC (.int 0))) Γ (.ok x.a) := .mk fun X Q E q => by
  obtain ⟨v, hs, a, v1, v2, e, ha, p1, p2⟩ := E.get hΓ
  subst e
  refine ⟨_, hs, a, [v1, v2], 0, v1, rfl, rfl, SqL.of (E.same _ _ ha), rfl, ?_⟩
  rw [p1.1]
  exact q p1.2
theorem st_ixM2_1 [Rep α] [Rep β] {x : ML2 α β} (E : Env K I H σ Γ ρ Θ) (hΓ : Γ[j]? = some (.im x)) (next : ∀ v, Env K I H σ Γ (some v :: ρ) (.im x.b :: Θ) → Q v H) : tOp (rIxL K) (tVar j) (tC (.int 1)) σ H Q := by
  obtain ⟨v, hs, a, v1, v2, e, ha, p1, p2⟩ := E.get hΓ
  subst e
  exact ⟨_, hs, a, [v1, v2], 1, v2, rfl, rfl, SqL.of (E.same _ _ ha), rfl, next v2 (E.push p2)⟩
theorem hf_ixM2_1 [Rep α] [Sca β] {x : ML2 α β} (hΓ : Γ[j]? = some (.im x)) : HF K (tOp (rIxL K) (tVar j) (tC (.int 1))) Γ (.ok x.b) := .mk fun X Q E q => by
  obtain ⟨v, hs, a, v1, v2, e, ha, p1, p2⟩ := E.get hΓ
  subst e
  refine ⟨_, hs, a, [v1, v2], 1, v2, rfl, rfl, SqL.of (E.same _ _ ha), rfl, ?_⟩
  rw [p2.1]
  exact q p2.2
theorem st_mk3 [Rep α] [Rep β] [Rep γ] {x1 : α} {x2 : β} {x3 : γ} (E : Env K I H σ Γ (some v3 :: some v2 :: some v1 :: ρ) (.im x3 :: .im x2 :: .im x1 :: Θ)) (next : ∀ I' H' v, Env K I' H' σ Γ (some v :: ρ) (.im (ML3.mk x1 x2 x3) :: Θ) → Q v H') : LsG [v1, v2, v3] H Q := by
  refine ⟨line_of (by decide : (3 : Nat) ≤ line), fun p hp => ?_⟩
  have r3 := E.topR
  have r2 := E.pop.topR
  have r1 := E.pop.pop.topR
  have E2 := E.pop.pop.pop
  have m : ∀ {γ : Type} [Rep γ] {v : V} {z : γ}, Rep.rp K I v z → Rep.rp K (upd I p (.lst [v1, v2, v3])) v z := fun q => Rep.mono (fun a o e => by rw [upd_ne (ne_of_none e (E2.2.2.none_of hp))]; exact e) q
  exact next _ _ _ ((E2.grow (Grow.newI (u := .lst [v1, v2, v3]) E2.same hp)).push ⟨p, v1, v2, v3, rfl, upd_same, m r1, m r2, m r3⟩)
theorem st_ixM3_0 [Rep α] [Rep β] [Rep γ] {x : ML3 α β γ} (E : Env K I H σ Γ ρ Θ) (hΓ : Γ[j]? = some (.im x)) (next : ∀ v, Env K I H σ Γ (some v :: ρ) (.im x.a :: Θ) → Q v H) : tOp (rIxL K) (tVar j) (tC (.int 0)) σ H Q := by
  obtain ⟨v, hs, a, v1, v2, v3, e, ha, p1, p2, p3⟩ := E.get hΓ
  subst e
  exact ⟨_, hs, a, [v1, v2, v3], 0, v1, rfl, rfl, SqL.of (E.same _ _ ha), rfl, next v1 (E.push p1)⟩
theorem hf_ixM3_0 [Sca α] [Rep β] [Rep γ] {x : ML3 α β γ} (hΓ : Γ[j]? = some (.im x)) : HF K (tOp (rIxL K) (tVar j) (tC (.int 0))) Γ (.ok x.a) := .mk fun X Q E q => by
  obtain ⟨v, hs, a, v1, v2, v3, e, ha, p1, p2, p3⟩ := E.get hΓ
  subst e
  refine ⟨_, hs, a, [v1, v2, v3], 0, v1, rfl, rfl, SqL.of (E.same _ _ ha), rfl, ?_⟩
  rw [p1.1]
  exact q p1.2
theorem st_ixM3_1 [Rep α] [Rep β] [Rep γ] {x : ML3 α β γ} (E : Env K I H σ Γ ρ Θ) (hΓ : Γ[j]? = some (.im x)) (next : ∀ v, Env K I H σ Γ (some v :: ρ) (.im x.b :: Θ) → Q v H) : tOp (rIxL K) (tVar j) (tC (.int 1)) σ H Q := by
  obtain ⟨v, hs, a, v1, v2, v3, e, ha, p1, p2, p3⟩ := E.get hΓ
  subst e
  exact ⟨_, hs, a, [v1, v2, v3], 1, v2, rfl, rfl, SqL.of (E.same _ _ ha), rfl, next v2 (E.push p2)⟩
theorem hf_ixM3_1 [Rep α] [Sca β] [Rep γ] {x : ML3 α β γ} (hΓ : Γ[j]? = some (.im x)) : HF K (tOp (rIxL K) (tVar j) (tC (.int 1))) Γ (.ok x.b) := .mk fun X Q E q => by
  obtain ⟨v, hs, a, v1, v2, v3, e, ha, p1, p2, p3⟩ := E.get hΓ
  subst e
  refine ⟨_, hs, a, [v1, v2, v3], 1, v2, rfl, rfl, SqL.of (E.same _ _ ha), rfl, ?_⟩
  rw [p2.1]
  exact q p2.2
theorem st_ixM3_2 [Rep α] [Rep β] [Rep γ] {x : ML3 α β γ} (E : Env K I H σ Γ ρ Θ) (hΓ : Γ[j]? = some (.im x)) (next : ∀ v, Env K I H σ Γ (some v :: ρ) (.im x.c :: Θ) → Q v H) : tOp (rIxL K) (tVar j) (tC (.int 2)) σ H Q := by
  obtain ⟨v, hs, a, v1, v2, v3, e, ha, p1, p2, p3⟩ := E.get hΓ
  subst e
  exact ⟨_, hs, a, [v1, v2, v3], 2, v3, rfl, rfl, SqL.of (E.same _ _ ha), rfl, next v3 (E.push p3)⟩
theorem hf_ixM3_2 [Rep α] [Rep β] [Sca γ] {x : ML3 α β γ} (hΓ : Γ[j]? = some (.im x)) : HF K (tOp (rIxL K) (tVar j) (tC (.int 2))) Γ (.ok x.c) := .mk fun X Q E q => by
  obtain ⟨v, hs, a, v1, v2, v3, e, ha, p1, p2, p3⟩ := E.get hΓ
  subst e
  refine ⟨_, hs, a, [v1, v2, v3], 2, v3, rfl, rfl, SqL.of (E.same _ _ ha), rfl, ?_⟩
  rw [p3.1]
  exact q p3.2
theorem st_mk4 [Rep α] [Rep β] [Rep γ] [Rep δ] {x1 : α} {x2 : β} {x3 : γ} {x4 : δ} (E : Env K I H σ Γ (some v4 :: some v3 :: some v2 :: some v1 :: ρ) (.im x4 :: .im x3 :: .im x2 :: .im x1 :: Θ)) (next : ∀ I' H' v, Env K I' H' σ Γ (some v :: ρ) (.im (ML4.mk x1 x2 x3 x4) :: Θ) → Q v H') : LsG [v1, v2, v3, v4] H Q := by
  refine ⟨line_of (by decide : (4 : Nat) ≤ line), fun p hp => ?_⟩
  have r4 := E.topR
  have r3 := E.pop.topR
  have r2 := E.pop.pop.topR
  have r1 := E.pop.pop.pop.topR
  have E2 := E.pop.pop.pop.pop
  have m : ∀ {γ : Type} [Rep γ] {v : V} {z : γ}, Rep.rp K I v z → Rep.rp K (upd I p (.lst [v1, v2, v3, v4])) v z := fun q => Rep.mono (fun a o e => by rw [upd_ne (ne_of_none e (E2.2.2.none_of hp))]; exact e) q
  exact next _ _ _ ((E2.grow (Grow.newI (u := .lst [v1, v2, v3, v4]) E2.same hp)).push ⟨p, v1, v2, v3, v4, rfl, upd_same, m r1, m r2, m r3, m r4⟩)
theorem st_ixM4_0 [Rep α] [Rep β] [Rep γ] [Rep δ] {x : ML4 α β γ δ} (E : Env K I H σ Γ ρ Θ) (hΓ : Γ[j]? = some (.im x)) (next : ∀ v, Env K I H σ Γ (some v :: ρ) (.im x.a :: Θ) → Q v H) : tOp (rIxL K) (tVar j) (tC (.int 0)) σ H Q := by
  obtain ⟨v, hs, a, v1, v2, v3, v4, e, ha, p1, p2, p3, p4⟩ := E.get hΓ
  subst e
  exact ⟨_, hs, a, [v1, v2, v3, v4], 0, v1, rfl, rfl, SqL.of (E.same _ _ ha), rfl, next v1 (E.push p1)⟩
theorem hf_ixM4_0 [Sca α] [Rep β] [Rep γ] [Rep δ] {x : ML4 α β γ δ} (hΓ : Γ[j]? = some (.im x)) : HF K (tOp (rIxL K) (tVar j) (tC (.int 0))) Γ (.ok x.a) := .mk fun X Q E q => by
  obtain ⟨v, hs, a, v1, v2, v3, v4, e, ha, p1, p2, p3, p4⟩ := E.get hΓ
  subst e
  refine ⟨_, hs, a, [v1, v2, v3, v4], 0, v1, rfl, rfl, SqL.of (E.same _ _ ha), rfl, ?_⟩
  rw [p1.1]
  exact q p1.2
theorem st_ixM4_1 [Rep α] [Rep β] [Rep γ] [Rep δ] {x : ML4 α β γ δ} (E : Env K I H σ Γ ρ Θ) (hΓ : Γ[j]? = some (.im x)) (next : ∀ v, Env K I H σ Γ (some v :: ρ) (.im x.b :: Θ) → Q v H) : tOp (rIxL K) (tVar j) (tC (.int 1)) σ H Q := by
  obtain ⟨v, hs, a, v1, v2, v3, v4, e, ha, p1, p2, p3, p4⟩ := E.get hΓ
  subst e
  exact ⟨_, hs, a, [v1, v2, v3, v4], 1, v2, rfl, rfl, SqL.of (E.same _ _ ha), rfl, next v2 (E.push p2)⟩
theorem hf_ixM4_1 [Rep α] [Sca β] [Rep γ] [Rep δ] {x : ML4 α β γ δ} (hΓ : Γ[j]? = some (.im x)) : HF K (tOp (rIxL K) (tVar j) (tC (.int 1))) Γ (.ok x.b) := .mk fun X Q E q => by
  obtain ⟨v, hs, a, v1, v2, v3, v4, e, ha, p1, p2, p3, p4⟩ := E.get hΓ
  subst e
  refine ⟨_, hs, a, [v1, v2, v3, v4], 1, v2, rfl, rfl, SqL.of (E.same _ _ ha), rfl, ?_⟩
  rw [p2.1]
  exact q p2.2
theorem st_ixM4_2 [Rep α] [Rep β] [Rep γ] [Rep δ] {x : ML4 α β γ δ} (E : Env K I H σ Γ ρ Θ) (hΓ : Γ[j]? = some (.im x)) (next : ∀ v, Env K I H σ Γ (some v :: ρ) (.im x.c :: Θ) → Q v H) : tOp (rIxL K) (tVar j) (tC (.int 2)) σ H Q := by
  obtain ⟨v, hs, a, v1, v2, v3, v4, e, ha, p1, p2, p3, p4⟩ := E.get hΓ
  subst e
  exact ⟨_, hs, a, [v1, v2, v3, v4], 2, v3, rfl, rfl, SqL.of (E.same _ _ ha), rfl, next v3 (E.push p3)⟩
theorem hf_ixM4_2 [Rep α] [Rep β] [Sca γ] [Rep δ] {x : ML4 α β γ δ} (hΓ : Γ[j]? = some (.im x)) : HF K (tOp (rIxL K) (tVar j) (tC (.int 2))) Γ (.ok x.c) := .mk fun X Q E q => by
  obtain ⟨v, hs, a, v1, v2, v3, v4, e, ha, p1, p2, p3, p4⟩ := E.get hΓ
  subst e
  refine ⟨_, hs, a, [v1, v2, v3, v4], 2, v3, rfl, rfl, SqL.of (E.same _ _ ha), rfl, ?_⟩
  rw [p3.1]
  exact q p3.2
theorem st_ixM4_3 [Rep α] [Rep β] [Rep γ] [Rep δ] {x : ML4 α β γ δ} (E : Env K I H σ Γ ρ Θ) (hΓ : Γ[j]? = some (.im x)) (next : ∀ v, Env K I H σ Γ (some v :: ρ) (.im x.d :: Θ) → Q v H) : tOp (rIxL K) (tVar j) (tC (.int 3)) σ H Q := by
  obtain ⟨v, hs, a, v1, v2, v3, v4, e, ha, p1, p2, p3, p4⟩ := E.get hΓ
  subst e
  exact ⟨_, hs, a, [v1, v2, v3, v4], 3, v4, rfl, rfl, SqL.of (E.same _ _ ha), rfl, next v4 (E.push p4)⟩
theorem hf_ixM4_3 [Rep α] [Rep β] [Rep γ] [Sca δ] {x : ML4 α β γ δ} (hΓ : Γ[j]? = some (.im x)) : HF K (tOp (rIxL K) (tVar j) (tC (.int 3))) Γ (.ok x.d) := .mk fun X Q E q => by
  obtain ⟨v, hs, a, v1, v2, v3, v4, e, ha, p1, p2, p3, p4⟩ := E.get hΓ
  subst e
  refine ⟨_, hs, a, [v1, v2, v3, v4], 3, v4, rfl, rfl, SqL.of (E.same _ _ ha), rfl, ?_⟩
  rw [p4.1]
  exact q p4.2
end
end M
namespace M
open PySem PySem.Spec PyProof.Rows L2 L2N
/-! ### try with several clauses, each with or without a name for what it catches -/
abbrev Clause : Type := Value × Option Nat × (Addr → Value → Option Addr → TS)
def goneE (i : Nat) (D : Ends) : Ends := { nx := fun σ H => D.nx (σ.set i none) H, rt := D.rt, bk := fun σ H => D.bk (σ.set i none) H, ct := fun σ H => D.ct (σ.set i none) H }
def wGen (K : PySem.W.Frag) (Wout : WX) (D : Ends) : List Clause → WX
  | [] => Wout
  | (c, none, ts) :: r => fun cls d σ H => ∃ b, PySem.W.exmOne K cls c = some b ∧ (b = true → ∀ a, H a = none → ts a cls d D σ H) ∧ (b = false → wGen K Wout D r cls d σ H)
  | (c, some i, ts) :: r => fun cls d σ H => ∃ b, PySem.W.exmOne K cls c = some b ∧ (b = true → ∀ a, H a = none → ts a cls d (goneE i D) (σ.set i (some (.ref a))) H) ∧ (b = false → wGen K Wout D r cls d σ H)
inductive COk (X : Cx) : List ExceptHandler → List Clause → Prop
  | nil : COk X [] []
  | as {x n : Str} {i : Nat} {c : Value} {ts : Addr → Value → Option Addr → TS} {b₀ : Stmt} {su : List Stmt} {np hp : Pos} {hs : List ExceptHandler} {l : List Clause} (hi : X.N[i]? = some n) (hl : X.env.kindOf n = some .local) (hc : Names X x c)
      (hsu : ∀ (a : Addr) (oe : Obj) (cls : Value) (d : Option Addr) (pn : List (Addr × Obj)), L2N.Zn cls d oe → (∃ vs, oe.data = .fields vs) → PSs (X.suite a ((a, oe) :: pn)) (b₀ :: su) (ts a cls d)) (r : COk X hs l) :
      COk X (.ExceptHandler (some (.Name x np)) (some n) (b₀ :: su) hp :: hs) ((c, some i, ts) :: l)
  | no {x : Str} {c : Value} {ts : Addr → Value → Option Addr → TS} {b₀ : Stmt} {su : List Stmt} {np hp : Pos} {hs : List ExceptHandler} {l : List Clause} (hc : Names X x c)
      (hsu : ∀ (a : Addr) (oe : Obj) (cls : Value) (d : Option Addr) (pn : List (Addr × Obj)), L2N.Zn cls d oe → (∃ vs, oe.data = .fields vs) → PSs (X.suite a ((a, oe) :: pn)) (b₀ :: su) (ts a cls d)) (r : COk X hs l) :
      COk X (.ExceptHandler (some (.Name x np)) none (b₀ :: su) hp :: hs) ((c, none, ts) :: l)
def tTryM (tb : WX → TS) (K : PySem.W.Frag) (l : List Clause) : TS := fun D σ H => tb (wGen K (fun _ _ _ _ => False) D l) D σ H
section
variable {X : Cx} {body : List Stmt} {h1 : ExceptHandler} {hs : List ExceptHandler} {l : List Clause} {pos : Pos} {tb : WX → TS}
theorem ps_tryM (est : X.stack = X.env :: X.outer) (efr : X.env.frame = some X.env.locals) (nd : X.N.Nodup)
    (hb : ∀ (W : WX) (pn : List (Addr × Obj)) (xe : Value → Shared → Prop), L2N.Takes (X.tr pn xe) W → PassesOwn (model X.prog X.w) X.A X.env xe → PSs (X.tr pn xe) body (tb W))
    (hh : COk X (h1 :: hs) l) : PS X (.Try body (h1 :: hs) [] [] pos) (tTryM tb X.K l) := by
  have tk : L2N.Takes X (fun _ _ _ _ => False) := takesN0
  refine ⟨fun pins s σ H D I h => wpAny_Try_except ?_⟩
  have okI := I.ok
  have frs1 : X.A.frames = some (X.env :: X.outer) := by rw [okI.frames, est]
  refine wpAny_mono ((hb (wGen X.K (fun _ _ _ _ => False) D l) (X.pn ++ pins) (fun e t1 => wpAny (model X.prog X.w) X.A (noteFrame e X.env) (fun _ t2 => wpAny (model X.prog X.w) X.A (setFlight e none) (fun _ t3 =>
    wpAny (model X.prog X.w) X.A (handleBy e X.env (h1 :: hs)) (SP X pins D) X.xe t3) X.xe t2) X.xe t1) (fun u t0 caught => ?_) PassesOwn.looking).run [] s σ H D (I.toTry _) h) (fun fl t0 post => ?_) (fun _ _ z => z)
  · obtain ⟨a, B, sI, pz, σx, Hx, cls, d, rfl, Jt, inB, upS, sky0, na, eos, bare, w⟩ := caught
    have J : Inv X pins σx Hx sI := Jt.ofTry okI
    have sky : Sky B (X.env :: X.outer) a (L2N.Zn cls d) X.env.locals t0.heap := by rw [← est]; exact sky0
    show wpAny (model X.prog X.w) X.A (noteFrame (.ref a) X.env) _ _ _
    refine Sky.land L2N.Zn.steady frs1 efr sky fun g3 fly3 up3 => ?_
    have J3 : Inv X pins σx Hx { t0 with heap := g3 } := J.landed inB fly3.1 (upS.trans up3) eos bare
    obtain ⟨ob3, ws3, at3, zn3, dt3⟩ := fly3.there
    have off : a ∉ frs (X.env :: X.outer) := fun hm => by
      obtain ⟨_, o2, e2, nf⟩ := fly3.2.2.1.mem hm
      rw [at3] at e2
      cases e2
      exact nf _ dt3
    have offL : a ≠ X.env.locals := fun z => off (List.mem_filterMap.mpr ⟨X.env, List.mem_cons_self, by rw [efr, z]⟩)
    have offF : a ∉ X.fs := fun hm => by
      obtain ⟨e, me, q⟩ := List.mem_filterMap.mp hm
      exact off (List.mem_filterMap.mpr ⟨e, List.mem_cons_of_mem _ me, q⟩)
    have S3 := J3.suite at3 dt3 na offL offF
    have LT : PySem.W.Looks (model X.prog X.w) g3 (typeOf (.ref a)) cls := fun A Q E s k q => wpAny_typeOf_ref (k _ _ at3) (by rw [zn3.1]; exact q)
    have look : ∀ {x : Str} {c : Value} {np : Pos}, Names X x c → ∀ {Q : Value → Shared → Prop} {E : Value → Shared → Prop}, Q c { t0 with heap := g3 } → wpAny (model X.prog X.w) (X.A.mark (some (.ref a))) (eval (.Name x np) X.env) Q E { t0 with heap := g3 } := fun {x c np} hc {Q E} q => by
      obtain ⟨gx, db, k | ⟨k, bv, nn⟩⟩ := hc
      · exact ld_glob (X := X.suite a ((a, ob3) :: (X.pn ++ pins))) S3 gx k q db
      · exact ld_blt (X := X.suite a ((a, ob3) :: (X.pn ++ pins))) S3 gx k bv q nn db
    have go : ∀ {hds : List ExceptHandler} {lc : List Clause}, COk X hds lc → wGen X.K (fun _ _ _ _ => False) D lc cls d σx Hx → wpAny (model X.prog X.w) X.A (handleBy (.ref a) X.env hds) (SP X pins D) X.xe { t0 with heap := g3 } := by
      intro hds lc ck
      induction ck with
      | nil => exact fun z => z.elim
      | @as x n i c ts b₀ su np hp hs2 l2 hi hl hc hsu r ih =>
        rintro ⟨b, eb, yes, no⟩
        refine wpAny_handleBy_cons (codeAny_handlers_test (look hc ((PySem.W.exm_one (M := model X.prog X.w) J3.kIn LT eb).here ?_))) (by intro q; cases q)
        cases b with
        | true =>
          refine codeAny_handlers_suite_as (HandSPX.lands_againZ fly3 fun g4 fly4 up4 => ?_)
          have J4 : Inv X pins σx Hx { t0 with heap := g4 } := J.landed inB fly4.1 ((upS.trans up3).trans up4) eos bare
          obtain ⟨ob4, ws4, at4, zn4, dt4⟩ := fly4.there
          have S4 := J4.suite at4 dt4 na offL offF
          refine store_ok (X := X.suite a ((a, ob4) :: (X.pn ++ pins))) (v := .ref a) S4 nd hi (.inl hl) rfl (fun t5 S5 => ?_) (.inr hl)
          refine wpAny_mono ((hsu a ob4 cls d (X.pn ++ pins) zn4 ⟨_, dt4⟩).run [] t5 _ Hx _ S5 (yes rfl a na)) (fun fl t6 post => ?_) (fun _ _ z => z.elim)
          have fin : ∀ {σy : L2.St} {Hy : Hp} {Q : Shared → Prop}, Inv (X.suite a ((a, ob4) :: (X.pn ++ pins))) [] σy Hy t6 → (∀ t7, Inv X pins (σy.set i none) Hy t7 → Q t7) →
              wpAny (model X.prog X.w) X.A (do bindName X.env n .none; unbindBehindTheSuite X.env n hp) (fun _ t7 => Q t7) X.xe t6 := fun {σy Hy Q} S6 q => gone_ok (S6.unsuite okI) nd hi hl q
          cases fl with
          | next =>
            obtain ⟨σy, Hy, S6, q6⟩ := post
            exact fin S6 fun _ J7 => ⟨_, _, J7, q6⟩
          | brk =>
            obtain ⟨σy, Hy, S6, q6⟩ := post
            exact fin S6 fun _ J7 => ⟨_, _, J7, q6⟩
          | cont =>
            obtain ⟨σy, Hy, S6, q6⟩ := post
            exact fin S6 fun _ J7 => ⟨_, _, J7, q6⟩
          | ret u =>
            obtain ⟨vy, σy, Hy, S6, ry, q6⟩ := post
            exact fin S6 fun _ J7 => ⟨_, _, _, J7, ry, q6⟩
        | false => exact ih (no rfl)
      | @no x c ts b₀ su np hp hs2 l2 hc hsu r ih =>
        rintro ⟨b, eb, yes, no⟩
        refine wpAny_handleBy_cons (codeAny_handlers_test (look hc ((PySem.W.exm_one (M := model X.prog X.w) J3.kIn LT eb).here ?_))) (by intro q; cases q)
        cases b with
        | true =>
          refine codeAny_handlers_suite (HandSPX.lands_againZ fly3 fun g4 fly4 up4 => ?_)
          have J4 : Inv X pins σx Hx { t0 with heap := g4 } := J.landed inB fly4.1 ((upS.trans up3).trans up4) eos bare
          obtain ⟨ob4, ws4, at4, zn4, dt4⟩ := fly4.there
          have S4 := J4.suite at4 dt4 na offL offF
          refine wpAny_mono ((hsu a ob4 cls d (X.pn ++ pins) zn4 ⟨_, dt4⟩).run [] _ _ Hx _ S4 (yes rfl a na)) (fun fl t6 post => ?_) (fun _ _ z => z.elim)
          cases fl with
          | next =>
            obtain ⟨σy, Hy, S6, q6⟩ := post
            exact ⟨_, _, S6.unsuite okI, q6⟩
          | brk =>
            obtain ⟨σy, Hy, S6, q6⟩ := post
            exact ⟨_, _, S6.unsuite okI, q6⟩
          | cont =>
            obtain ⟨σy, Hy, S6, q6⟩ := post
            exact ⟨_, _, S6.unsuite okI, q6⟩
          | ret u =>
            obtain ⟨vy, σy, Hy, S6, ry, q6⟩ := post
            exact ⟨_, _, _, S6.unsuite okI, ry, q6⟩
        | false => exact ih (no rfl)
    exact go hh w
  · cases fl with
    | next =>
      obtain ⟨σy, Hy, Jy, q⟩ := post
      exact wpAny_execs_nil ⟨σy, Hy, Jy.ofTry okI, q⟩
    | brk =>
      obtain ⟨σy, Hy, Jy, q⟩ := post
      exact ⟨σy, Hy, Jy.ofTry okI, q⟩
    | cont =>
      obtain ⟨σy, Hy, Jy, q⟩ := post
      exact ⟨σy, Hy, Jy.ofTry okI, q⟩
    | ret u =>
      obtain ⟨vy, σy, Hy, Jy, ry, q⟩ := post
      exact ⟨vy, σy, Hy, Jy.ofTry okI, ry, q⟩
end
section
variable {K : PySem.W.Frag} {mg : Str → Option Value} {I H I' H' : Hp} {σ σ' ρ : List (Option V)} {Γ Γ' Θ : List Cell} {i j n : Nat} {v : V} {Q : VK} {c : Value} {e : Exn} {Wout : WX} {D : Ends} {r l : List Clause} {ts : Addr → Value → Option Addr → TS} {dn db dc : L2.St → Hp → Prop} {dr : VK}
variable {ω : Type} {P : ω → Prop} {X : Exn → Prop}
theorem wg_as {b : Bool} (hx : ∀ cls, mg e.cls = some cls → PySem.W.exmOne K cls c = some b) (hi : i < Γ.length)
    (yes : b = true → ∀ I H σ' a d cls, mg e.cls = some cls → Env K I H σ' (Γ.set i (.im (⟨a, d, e⟩ : ExV))) ρ Θ → ts a cls (dOf d) (goneE i D) σ' H)
    (no : b = false → XWish K mg (wGen K Wout D r) σ Γ ρ Θ e) : XWish K mg (wGen K Wout D ((c, some i, ts) :: r)) σ Γ ρ Θ e := fun I' H' cls d hm E =>
  ⟨b, hx cls hm, fun hb a _ => yes hb I' H' _ a d cls hm (E.caught hi), fun hb => no hb I' H' cls d hm E⟩
theorem wg_no {b : Bool} (hx : ∀ cls, mg e.cls = some cls → PySem.W.exmOne K cls c = some b)
    (yes : b = true → ∀ I H (a : Addr) (d : V) cls, mg e.cls = some cls → Env K I H σ Γ ρ Θ → ts a cls (dOf d) D σ H)
    (no : b = false → XWish K mg (wGen K Wout D r) σ Γ ρ Θ e) : XWish K mg (wGen K Wout D ((c, none, ts) :: r)) σ Γ ρ Θ e := fun I' H' cls d hm E =>
  ⟨b, hx cls hm, fun hb a _ => yes hb I' H' a d cls hm E.pop, fun hb => no hb I' H' cls d hm E⟩
theorem st_tryM {ρτ S : Type} {tb : WX → TS} {m : Res (Lp ρτ S)} {f : Exn → Res (Lp ρτ S)} {k : Lp ρτ S → Res ω} (ΓT : List Cell) (R : ρτ → Prop) (G : S → List Cell) (E : Env K I H σ Γ ρ Θ) (h : wp ((m.catch f).bind k) P X)
    (ret : ∀ r, wp (k (.ret r)) P X → R r) (rest : ∀ s I' H' σ', Env K I' H' σ' (G s) ρ Θ → wp (k (.fin s)) P X → dn σ' H')
    (han : ∀ e, wp (f e) (TryP K G ρ Θ dn R) X → ∀ σ, XWish K mg (wGen K (fun _ _ _ _ => False) ⟨dn, dr, db, dc⟩ l) σ ΓT ρ Θ e)
    (body : (∀ e, wp (f e) (TryP K G ρ Θ dn R) X → ∀ σ, XWish K mg (wGen K (fun _ _ _ _ => False) ⟨dn, dr, db, dc⟩ l) σ ΓT ρ Θ e) → wp m (TryP K G ρ Θ dn R) (fun e => wp (f e) (TryP K G ρ Θ dn R) X) → tb (wGen K (fun _ _ _ _ => False) ⟨dn, dr, db, dc⟩ l) ⟨dn, dr, db, dc⟩ σ H) :
    tTryM tb K l ⟨dn, dr, db, dc⟩ σ H := by
  have h2 : wp (m.catch f) (TryP K G ρ Θ dn R) X := wp_mono (wp_bind.mp h) (fun y q => by
    cases y with
    | fin s => exact fun I' H' σ' E' => rest s I' H' σ' E' q
    | ret r => exact ret r q) fun _ z => z
  exact body han (wp_catch h2)
end
end M
namespace M
open PySem PySem.Spec PyProof.Rows L2
/-- a and b, a or b as values: the ways meet -/
theorem st_orV {K : PySem.W.Frag} {I H : Hp} {σ ρ : List (Option V)} {Γ Θ : List Cell} {Q : VK} {ω : Type} {P : ω → Prop} {X : Exn → Prop} {b : Bool} {mB : Res Bool} {k : Bool → Res ω} {tb : TE} (E : Env K I H σ Γ ρ Θ) (h : wp ((if b = true then .ok true else mB).bind k) P X)
    (h2 : wp mB (fun a => ∀ I' H' v, Env K I' H' σ Γ (some v :: ρ) (.im a :: Θ) → Q v H') X → tb σ H Q)
    (next : ∀ a I' H' v, Env K I' H' σ Γ (some v :: ρ) (.im a :: Θ) → wp (k a) P X → Q v H') : if b = true then Q (.bl true) H else tb σ H Q := by
  cases b with
  | true => exact next true I H _ (E.pushS (α := Bool) (a := true) trivial) h
  | false => exact h2 (wpb h fun a h I' H' v E => next a I' H' v E h)
theorem st_andV {K : PySem.W.Frag} {I H : Hp} {σ ρ : List (Option V)} {Γ Θ : List Cell} {Q : VK} {ω : Type} {P : ω → Prop} {X : Exn → Prop} {b : Bool} {mB : Res Bool} {k : Bool → Res ω} {tb : TE} (E : Env K I H σ Γ ρ Θ) (h : wp ((if b = true then mB else .ok false).bind k) P X)
    (h2 : wp mB (fun a => ∀ I' H' v, Env K I' H' σ Γ (some v :: ρ) (.im a :: Θ) → Q v H') X → tb σ H Q)
    (next : ∀ a I' H' v, Env K I' H' σ Γ (some v :: ρ) (.im a :: Θ) → wp (k a) P X → Q v H') : if b = true then tb σ H Q else Q (.bl false) H := by
  cases b with
  | true => exact h2 (wpb h fun a h I' H' v E => next a I' H' v E h)
  | false => exact next false I H _ (E.pushS (α := Bool) (a := false) trivial) h
end M
namespace M
open PySem PySem.Spec PyProof PyProof.Rows L2
section
variable {X : Cx} {x : Str} {p pos : Pos} {e : Expr} {t : TA} {K : PySem.W.Frag}
/-- list(e), the frag named -/
theorem pe_lstOf (hK : X.K = K) (hg : Gl X x) (hm : X.mg x = none) (hv : bootBuiltins x = some (.type "list")) (ha : PA X [e] t) (hn : x ≠ "__name__" := by decide) (hdb : (x == ("__debug__" : Str)) = false := by decide)
    (he : starEach [e] X.env = (false, eval e X.env) :: starEach [] X.env := by rfl) (hpl : (backTo pos (starEach [] X.env)).any (·.1) = false := by rfl) : PE X (.Call (.Name x p) [e] [] pos) (tCB (rListOf K) t) :=
  hK ▸ pe_callTy call_list_of hg hm hv ha hn hdb he hpl
theorem pe_tupOf (hK : X.K = K) (hg : Gl X x) (hm : X.mg x = none) (hv : bootBuiltins x = some (.type "tuple")) (ha : PA X [e] t) (hn : x ≠ "__name__" := by decide) (hdb : (x == ("__debug__" : Str)) = false := by decide)
    (he : starEach [e] X.env = (false, eval e X.env) :: starEach [] X.env := by rfl) (hpl : (backTo pos (starEach [] X.env)).any (·.1) = false := by rfl) : PE X (.Call (.Name x p) [e] [] pos) (tCB (rTupOf K) t) :=
  hK ▸ pe_callTy call_tuple_of hg hm hv ha hn hdb he hpl
end
end M
namespace M
open PySem PySem.Spec PyProof PyProof.Rows L2
theorem ix_listK {X : Cx} {K : PySem.W.Frag} (hK : X.K = K) : IxR X (rIxL K) := hK ▸ ix_list
theorem ix_tupK {X : Cx} {K : PySem.W.Frag} (hK : X.K = K) : IxR X (rIxT K) := hK ▸ ix_tup
end M
/-! owned dicts from whole numbers to whole numbers -/
namespace M
open PySem PySem.Spec PyProof PyProof.Rows L2
structure DctI where
  l : List (Int × Int)
def dkv (d : DctI) : List (Key × V) := d.l.map fun x => (Sum.inl x.1, V.int x.2)
def dLook (d : DctI) (k : Int) : Option Int := (d.l.find? fun x => decide (x.1 = k)).map (·.2)
def dPutL (l : List (Int × Int)) (k v : Int) : List (Int × Int) := if (l.any fun x => decide (x.1 = k)) = true then l.map (fun x => if x.1 = k then (x.1, v) else x) else l ++ [(k, v)]
def dGet (d : DctI) (k : Int) : Res Int := match dLook d k with | some v => .ok v | none => .bad
def dHas (d : DctI) (k : Int) : Bool := (dLook d k).isSome
def dPut (d : DctI) (k v : Int) : Res DctI := if d.l.length < 100000 then .ok ⟨dPutL d.l k v⟩ else .bad
theorem valV_dkv (d : DctI) (k : Int) : valV (dkv d) (Sum.inl k : Key) = (dLook d k).map V.int := by
  obtain ⟨l⟩ := d
  unfold dkv dLook
  induction l with
  | nil => rfl
  | cons x l ih =>
    by_cases c : x.1 = k
    · rw [List.map_cons, valV_pos (by simp [c]), List.find?_cons_of_pos (by simp [c])]
      rfl
    · rw [List.map_cons, valV_neg (by simp [c]), List.find?_cons_of_neg (by simp [c])]
      exact ih
theorem putK_dkv (d : DctI) (k v : Int) : putK (dkv d) (Sum.inl k : Key) (V.int v) = dkv ⟨dPutL d.l k v⟩ := by
  obtain ⟨l⟩ := d
  unfold putK dkv dPutL
  have e : ((l.map fun x => ((Sum.inl x.1 : Key), V.int x.2)).any fun kv => decide (kv.1 = (Sum.inl k : Key))) = l.any fun x => decide (x.1 = k) := by
    rw [List.any_map]
    congr 1
    funext x
    simp
  dsimp only
  rw [e]
  split
  · rw [List.map_map, List.map_map]
    refine List.map_congr_left fun x _ => ?_
    show (if (Sum.inl x.1 : Key) = Sum.inl k then _ else _) = _
    by_cases c : x.1 = k
    · simp [c]
    · simp [c]
  · rw [List.map_append]
    rfl
instance ownDctI : Own DctI where
  ow K fp I H v d := ∃ p, v = .ref p ∧ fp = [p] ∧ H p = some (.dK (dkv d))
  mono := fun e k ⟨p, e1, e2, h⟩ => ⟨p, e1, e2, by subst e2; rw [k p (by simp)]; exact h⟩
section
variable {K : PySem.W.Frag} {mg : Str → Option Value} {I H I' H' : Hp} {σ σ' ρ : List (Option V)} {Γ Γ' Θ : List Cell} {es : List Ent} {i j n : Nat} {v : V} {te tl ti tv : TE} {Q : VK} {pn o : Option V} {ω : Type} {P : ω → Prop} {X : Exn → Prop} {d : DctI}
theorem EnvL.ownD (h : EnvL K I H ((o, .own d pn) :: es)) : ∃ p, o = some (.ref p) ∧ H p = some (.dK (dkv d)) ∧ ∀ d' : DctI, EnvL K I (upd H p (.dK (dkv d'))) ((o, .own d' pn) :: es) := by
  obtain ⟨s, fs, h1, h2, h3⟩ := id h
  cases fs with
  | nil => exact h1.elim
  | cons f fs =>
    obtain ⟨⟨v, e1, e0, p, e2, e3, hp⟩, h1⟩ := h1
    dsimp only at e1
    subst e1 e2 e3
    rw [List.flatten_cons] at h2 h3
    have hn := List.nodup_append.mp h2
    have pI := (h3 p (List.mem_append_left _ (List.mem_singleton.mpr rfl))).1
    have nf : ∀ x ∈ fs.flatten, x ≠ p := fun x hx z => hn.2.2 p (List.mem_singleton.mpr rfl) x hx z.symm
    refine ⟨p, rfl, hp, fun d' => ⟨fun x u e => ?_, [p] :: fs, ⟨⟨.ref p, rfl, e0, p, rfl, rfl, upd_same⟩, Ents.mono (Same.refl _) (fun x hx => upd_ne (nf x hx)) h1⟩, by rw [List.flatten_cons]; exact h2, fun x hx => ?_⟩⟩
    · rw [upd_ne (ne_of_none e pI)]
      exact s x u e
    · rw [List.flatten_cons] at hx
      refine ⟨(h3 x hx).1, ?_⟩
      by_cases z : x = p
      · subst z; rw [upd_same]; exact fun y => nomatch y
      · rw [upd_ne z]; exact (h3 x hx).2
theorem EnvL.newD {p : Addr} (h : EnvL K I H es) (hp : H p = none) : EnvL K I (upd H p (.dK [])) ((some (.ref p), .own (⟨[]⟩ : DctI)) :: es) := by
  have hi := h.none_of hp
  obtain ⟨s, fs, h1, h2, h3⟩ := h.grow (Grow.newH (u := .dK []) h.1 hp)
  obtain ⟨_, fs0, k1, k2, k3⟩ := h
  have g := Grow.newH (u := .dK []) ‹Same I H› hp
  refine ⟨s, [p] :: fs0, ⟨⟨.ref p, rfl, (fun w e => nomatch e), p, rfl, rfl, upd_same⟩, Ents.mono (Same.refl _) (fun x hx => upd_ne fun z => ?_) k1⟩, ?_, fun x hx => ?_⟩
  · subst z
    exact (k3 x hx).2 hp
  · rw [List.flatten_cons, List.singleton_append]
    exact List.nodup_cons.mpr ⟨fun z => (k3 p z).2 hp, k2⟩
  · rw [List.flatten_cons, List.singleton_append] at hx
    rcases List.mem_cons.mp hx with z | z
    · subst z
      exact ⟨hi, by rw [upd_same]; exact fun y => nomatch y⟩
    · refine ⟨(k3 x z).1, ?_⟩
      rw [upd_ne fun q => (k3 x z).2 (by rw [q]; exact hp)]
      exact (k3 x z).2
theorem Env.ownD (E : Env K I H σ Γ ρ Θ) (h : Γ[i]? = some (.own d pn)) : ∃ p, σ[i]? = some (some (.ref p)) ∧ H p = some (.dK (dkv d)) ∧ ∀ d' : DctI, Env K I (upd H p (.dK (dkv d'))) σ (Γ.set i (.own d' pn)) ρ Θ := by
  obtain ⟨o, r, ho, e, back⟩ := E.pick h
  obtain ⟨p, e1, hp, ch⟩ := e.ownD
  subst e1
  have ss : σ.set i (some (V.ref p)) = σ := set_same ho
  refine ⟨p, ho, hp, fun d' => ?_⟩
  have z := back _ _ (ch d')
  rw [ss] at z
  exact z
/-- {} -/
theorem st_dNew (E : Env K I H σ Γ ρ Θ) (next : ∀ H' v, Env K I H' σ Γ (some v :: ρ) (.own (⟨[]⟩ : DctI) :: Θ) → Q v H') : tDNewK σ H Q := fun p hp => next _ _ (E.toStack (E.2.2.newD hp))
theorem hf_dGet (hΓ : Γ[j]? = some (.own d pn)) {m : Res Int} (hi : HF K ti Γ m) : HF K (tDGet (tVar j) ti) Γ (m.bind fun k => dGet d k) := .mk fun X Q E q => by
  obtain ⟨p, hs, hp, _⟩ := E.ownD hΓ
  refine ⟨_, hs, hi.run X _ E (wpb q fun k q _ => ?_)⟩
  unfold dGet at q
  cases e : dLook d k with
  | none => rw [e] at q; exact q.elim
  | some v =>
    rw [e] at q
    refine ⟨p, .int v, rfl, ?_, q trivial⟩
    have := DGet.k (k := Sum.inl k) hp
    rw [valV_dkv, e] at this
    exact this
theorem hf_dIn (hΓ : Γ[j]? = some (.own d pn)) {m : Res Int} (hi : HF K ti Γ m) : HF K (tDIn ti (tVar j)) Γ (m.bind fun k => .ok (dHas d k)) := .mk fun X Q E q => hi.run X _ E (wpb q fun k q _ => by
  obtain ⟨p, hs, hp, _⟩ := E.ownD hΓ
  refine ⟨_, hs, p, valV (dkv d) (Sum.inl k), rfl, DGet.k (k := Sum.inl k) hp, ?_⟩
  have e : (valV (dkv d) (Sum.inl k : Key)).isSome = dHas d k := by
    rw [valV_dkv]
    unfold dHas
    cases dLook d k <;> rfl
  rw [e]
  exact q trivial)
theorem hf_dNi (hΓ : Γ[j]? = some (.own d pn)) {m : Res Int} (hi : HF K ti Γ m) : HF K (tDNotIn ti (tVar j)) Γ (m.bind fun k => .ok (!dHas d k)) := .mk fun X Q E q => hi.run X _ E (wpb q fun k q _ => by
  obtain ⟨p, hs, hp, _⟩ := E.ownD hΓ
  refine ⟨_, hs, p, valV (dkv d) (Sum.inl k), rfl, DGet.k (k := Sum.inl k) hp, ?_⟩
  have e : (valV (dkv d) (Sum.inl k : Key)).isSome = dHas d k := by
    rw [valV_dkv]
    unfold dHas
    cases dLook d k <;> rfl
  rw [e]
  exact q trivial)
abbrev rLenD : List V → Hp → VK → Prop := fun xs H Q => ∃ a kvs, xs = [V.ref a] ∧ H a = some (.dK kvs) ∧ Q (.int kvs.length) H
theorem hf_lenD (hΓ : Γ[j]? = some (.own d pn)) : HF K (tCB rLenD (tCons (tVar j) tNil)) Γ (.ok ((d.l.length : Nat) : Int)) := .mk fun X Q E q => by
  obtain ⟨p, hs, hp, _⟩ := E.ownD hΓ
  refine ⟨_, hs, p, _, rfl, hp, ?_⟩
  have e : (dkv d).length = d.l.length := List.length_map _
  rw [e]
  exact q trivial
/-- d[k] = v -/
theorem st_dPut {dn db dc : L2.St → Hp → Prop} {dr : VK} {m1 m2 : Res Int} {kk : DctI → Res ω} {Γ' : DctI → List Cell} (E : Env K I H σ Γ ρ Θ) (hΓ : Γ[i]? = some (.own d pn)) (hv : HF K tv Γ m1) (hi : HF K ti Γ m2) (h : wp (m1.bind fun v => m2.bind fun k => (dPut d k v).bind kk) P X)
    (hs : ∀ x, Γ.set i (.own x pn) = Γ' x) (next : ∀ d' H', Env K I H' σ (Γ' d') ρ Θ → wp (kk d') P X → dn σ H') : sDPut (tVar i) ti tv ⟨dn, dr, db, dc⟩ σ H :=
  hv.run X _ E (wpb h fun v h _ => by
    obtain ⟨p, hs1, hp, ch⟩ := E.ownD hΓ
    refine ⟨_, hs1, hi.run X _ E (wpb h fun k h _ => ?_)⟩
    unfold dPut at h
    by_cases c : d.l.length < 100000
    · rw [if_pos c] at h
      have hl : (dkv d).length < sizeLine := by
        have e : (dkv d).length = d.l.length := List.length_map _
        rw [e]
        exact Nat.lt_of_lt_of_le c (by rw [← line_eq]; unfold line; omega)
      refine ⟨p, _, rfl, DPut.k (k := Sum.inl k) (v := .int v) hp hl, ?_⟩
      have z := ch ⟨dPutL d.l k v⟩
      rw [← putK_dkv, hs] at z
      exact next _ _ z h
    · rw [if_neg c] at h
      exact h.elim)
end
end M
/-! comprehensions with two clauses, the inner one over a range -/
namespace M
open PySem PySem.Spec PyProof PyProof.Rows L2
noncomputable def lnOk (n : Nat) : Res Unit := clo (if n < line then .ok () else .bad)
noncomputable def inR {α γ β : Type} (f : α → γ → Res β) (x : α) : List γ → List β → Res (List β)
  | [], acc => .ok acc
  | y :: ys, acc => (lnOk acc.length).bind fun _ => (f x y).bind fun z => inR f x ys (acc ++ [z])
noncomputable def flR {α γ β : Type} (g : α → Res (List γ)) (f : α → γ → Res β) : List α → List β → Res (List β)
  | [], acc => .ok acc
  | x :: xs, acc => (g x).bind fun ys => (inR f x ys acc).bind fun acc => flR g f xs acc
def Lc2G (J : It) (g : TG) (tt : TT) (wi1 : TI) (g1 : TG) (tt1 : TT) (te : TE) (vs vs1 : List Nat) (σ : L2.St) (H1 : Hp) (Q : VK) : Prop := ∀ D, H1 D = none → ∃ W : Nat → Nat → Hp → Prop, (∃ m, W 0 m (upd H1 D (.lst []))) ∧ ∀ i m H, W i m H →
  (J.stop i H ∧ Q (.ref D) H) ∨ (J.go i H ∧ ∃ Nx : Hp → Prop, (∀ H', Nx H' → ∃ m', m' < m ∧ W (i + 1) m' H') ∧ ∀ x H', J.yld i H x H' → g x (wipe σ vs) H' fun σ2 H2 => wipe σ2 vs = wipe σ vs ∧ tt σ2 H2 fun b H3 =>
    if b = true then wi1 σ2 H3 fun J1 H4 => ∃ W1 : Nat → Nat → Hp → Prop, (∃ m, W1 0 m H4) ∧ ∀ j k H, W1 j k H →
      (J1.stop j H ∧ Nx H) ∨ (J1.go j H ∧ ∃ Nx1 : Hp → Prop, (∀ H', Nx1 H' → ∃ k', k' < k ∧ W1 (j + 1) k' H') ∧ ∀ x H', J1.yld j H x H' → g1 x (wipe σ2 vs1) H' fun σ3 H5 => wipe σ3 vs1 = wipe σ2 vs1 ∧ tt1 σ3 H5 fun b H6 =>
        if b = true then te σ3 H6 fun y H7 => ∃ acc, H7 D = some (.lst acc) ∧ acc.length < sizeLine ∧ Nx1 (upd H7 D (.lst (acc ++ [y]))) else Nx1 H6)
    else Nx H3)
section
variable {K : PySem.W.Frag} {mg : Str → Option Value} {I H I' H' : Hp} {σ σ' ρ : List (Option V)} {Γ Γ' Θ : List Cell} {i j i2 : Nat} {v : V} {c c1 c2 : Cell} {te tl ti : TE} {wi wi1 : TI} {tt tt1 : TT} {g g1 : TG} {Q : VK}
variable {ω : Type} {P : ω → Prop} {X : Exn → Prop} {α β γ : Type} {vs vs1 : List Nat}
theorem uLc2 (h : wi σ H fun J H1 => Lc2G J g tt wi1 g1 tt1 te vs vs1 σ H1 Q) : tLc2 wi g tt wi1 g1 tt1 te vs vs1 σ H Q := h
theorem drop_at {xs : List α} {n : Nat} (h : n < xs.length) : xs.drop n = xs[n] :: xs.drop (n + 1) := List.drop_eq_getElem_cons h
theorem anyAt (E : Env K I H σ Γ ρ Θ) (hi : i < Γ.length) : Env K I H (σ.set i none) (Γ.set i .any) ρ Θ := Env.anyOf (E.weak (wkAny (i := i))) hi
theorem st_lc2 [Rep α] [Rep γ] [Rep β] {xs : List α} {J : It} {ρe : List (Option V)} {Θe : List Cell} {gm : α → Res (List γ)} {f : α → γ → Res β} {k : List β → Res ω} (ne : i ≠ i2) (hJ : Feeds K J xs ρe Θe)
    (E : Env K I H σ Γ (ρe ++ ρ) (Θe ++ Θ)) (hΓ : Γ[i]? = some c) (hΓ2 : Γ[i2]? = some c2) (h : wp ((flR gm f xs []).bind k) P X)
    (next : ∀ ys I' H' v, Env K I' H' σ Γ (some v :: ρ) (.own ys :: Θ) → wp (k ys) P X → Q v H')
    (inner : ∀ x I' H' σ' ρ' Θ' (R : It → Hp → Prop), Env K I' H' σ' ((Γ.set i2 .any).set i (.im x)) ρ' Θ' → wp (gm x) (fun ys => ∀ J1, Feeds K J1 ys [] [] → R J1 H') X → wi1 σ' H' R)
    (elt : ∀ x y I' H' σ' ρ' Θ' (Qe : VK), Env K I' H' σ' (((Γ.set i2 .any).set i (.im x)).set i2 (.im y)) ρ' Θ' → wp (f x y) (fun z => ∀ I'' H'' w, Env K I'' H'' σ' (((Γ.set i2 .any).set i (.im x)).set i2 (.im y)) (some w :: ρ') (.im z :: Θ') → Qe w H'') X → te σ' H' Qe) :
    Lc2G J (gName i) tYes wi1 (gName i2) tYes te [i, i2] [i2] σ H Q := by
  intro D hD
  have hi : i < Γ.length := (List.getElem?_eq_some_iff.mp hΓ).1
  have hi2 : i2 < Γ.length := (List.getElem?_eq_some_iff.mp hΓ2).1
  obtain ⟨o, ho, E1⟩ := E.aside hΓ
  have hΓ2' : (Γ.set i .any)[i2]? = some c2 := by rw [List.getElem?_set_ne ne]; exact hΓ2
  obtain ⟨o2, ho2, E1'⟩ := E1.aside hΓ2'
  have E2 := E1'.newL (α := β) (vs := []) (xs := []) hD .nil
  have sw : (Γ.set i .any).set i2 .any = (Γ.set i2 .any).set i .any := List.set_comm _ _ ne
  have sws : (σ.set i none).set i2 none = (σ.set i2 none).set i none := List.set_comm _ _ ne
  refine ⟨fun n m H' => m = xs.length - n ∧ n ≤ xs.length ∧ ∃ acc I', Env K I' H' ((σ.set i none).set i2 none) ((Γ.set i .any).set i2 .any) (some (.ref D) :: o2 :: o :: (ρe ++ ρ)) (.own acc :: c2 :: c :: (Θe ++ Θ)) ∧
    wp ((flR gm f (xs.drop n) acc).bind k) P X, ⟨xs.length, by simp, Nat.zero_le _, [], I, E2, h⟩, ?_⟩
  rintro n m H' ⟨rfl, hn, acc, I', E', h'⟩
  have toJ : ∀ {I' H' : Hp} {acc : List β}, Env K I' H' ((σ.set i none).set i2 none) ((Γ.set i .any).set i2 .any) (some (.ref D) :: o2 :: o :: (ρe ++ ρ)) (.own acc :: c2 :: c :: (Θe ++ Θ)) → Env K I' H' ((σ.set i none).set i2 none) ((Γ.set i .any).set i2 .any) (ρe ++ (some (.ref D) :: o2 :: o :: ρ)) (Θe ++ (.own acc :: c2 :: c :: Θ)) := by
    intro I' H' acc E'
    refine ⟨E'.1, ?_, E'.2.2.perm ((List.Perm.refl _).append ?_)⟩
    · have := E'.2.1
      have l := hJ.len
      simp only [List.length_append, List.length_cons] at this ⊢
      omega
    · have l := hJ.len
      show (((some (V.ref D), Cell.own acc) :: (o2, c2) :: (o, c) :: ((ρe ++ ρ).zip (Θe ++ Θ)))).Perm _
      rw [List.zip_append l, List.zip_append l]
      show ([(some (V.ref D), Cell.own acc), (o2, c2), (o, c)] ++ (ρe.zip Θe ++ ρ.zip Θ)).Perm (ρe.zip Θe ++ ([(some (V.ref D), Cell.own acc), (o2, c2), (o, c)] ++ ρ.zip Θ))
      rw [← List.append_assoc, ← List.append_assoc]
      exact List.perm_append_comm.append_right _
  have EJ := toJ E'
  by_cases hlt : n < xs.length
  · have hx : xs[n]? = some xs[n] := List.getElem?_eq_getElem hlt
    rw [drop_at hlt, flR, Res.bind_assoc] at h'
    refine .inr ⟨hJ.go n EJ hlt, fun H2 => ∃ acc I', Env K I' H2 ((σ.set i none).set i2 none) ((Γ.set i .any).set i2 .any) (some (.ref D) :: o2 :: o :: (ρe ++ ρ)) (.own acc :: c2 :: c :: (Θe ++ Θ)) ∧
      wp ((flR gm f (xs.drop (n + 1)) acc).bind k) P X, fun H2 z => ⟨xs.length - (n + 1), by omega, rfl, hlt, z⟩, fun y H2 hyl => ?_⟩
    obtain ⟨I2, g2, ry⟩ := hJ.yld n y H2 _ EJ hx hyl
    have E3 := ((E'.grow g2).push ry).store (i := i) (Γ' := (Γ.set i2 .any).set i (.im xs[n])) (by simpa using hi) (by rw [sw, List.set_set])
    have s3 : ((σ.set i none).set i2 none).set i (some y) = (σ.set i2 none).set i (some y) := by rw [sws, List.set_set]
    rw [s3] at E3
    have w0 : wipe σ [i, i2] = (σ.set i none).set i2 none := sws.symm
    show wipe ((wipe σ [i, i2]).set i (some y)) [i, i2] = wipe σ [i, i2] ∧ _
    rw [w0, s3]
    refine ⟨by show (((σ.set i2 none).set i (some y)).set i2 none).set i none = _; rw [List.set_comm _ _ ne, List.set_set, List.set_set, sws], ?_⟩
    show wi1 ((σ.set i2 none).set i (some y)) H2 _
    refine inner xs[n] I2 H2 _ _ _ _ E3 (wpb h' fun ys h' J1 hJ1 => ?_)
    rw [Res.bind_assoc] at h'
    -- the inner loop
    have s4 : wipe ((σ.set i2 none).set i (some y)) [i2] = (σ.set i2 none).set i (some y) := by
      show (((σ.set i2 none).set i (some y)).set i2 none) = _
      rw [List.set_comm _ _ ne, List.set_set]
    have g4 : ((Γ.set i2 .any).set i (.im xs[n])).set i2 .any = (Γ.set i2 .any).set i (.im xs[n]) := by
      rw [List.set_comm _ _ ne, List.set_set]
    refine ⟨fun jj kk H4 => kk = ys.length - jj ∧ jj ≤ ys.length ∧ ∃ acc I', Env K I' H4 ((σ.set i2 none).set i (some y)) ((Γ.set i2 .any).set i (.im xs[n])) (some (.ref D) :: o2 :: o :: (ρe ++ ρ)) (.own acc :: c2 :: c :: (Θe ++ Θ)) ∧
      wp ((inR f xs[n] (ys.drop jj) acc).bind fun acc => (flR gm f (xs.drop (n + 1)) acc).bind k) P X, ⟨ys.length, by simp, Nat.zero_le _, acc, I2, E3, h'⟩, ?_⟩
    rintro jj kk H4 ⟨rfl, hjn, acc, I4, E4, h4⟩
    by_cases hj : jj < ys.length
    · have hy : ys[jj]? = some ys[jj] := List.getElem?_eq_getElem hj
      rw [drop_at hj, inR, Res.bind_assoc] at h4
      unfold lnOk at h4
      rw [clo_eq] at h4
      by_cases hl : acc.length < line
      case neg =>
        rw [if_neg hl] at h4
        exact h4.elim
      rw [if_pos hl, Res.bind_ok, Res.bind_assoc] at h4
      refine .inr ⟨hJ1.go jj E4 hj, fun H5 => ∃ acc I', Env K I' H5 ((σ.set i2 none).set i (some y)) ((Γ.set i2 .any).set i (.im xs[n])) (some (.ref D) :: o2 :: o :: (ρe ++ ρ)) (.own acc :: c2 :: c :: (Θe ++ Θ)) ∧
        wp ((inR f xs[n] (ys.drop (jj + 1)) acc).bind fun acc => (flR gm f (xs.drop (n + 1)) acc).bind k) P X, fun H5 z => ⟨ys.length - (jj + 1), by omega, rfl, hj, z⟩, fun y1 H5 hyl1 => ?_⟩
      obtain ⟨I5, g5, ry1⟩ := hJ1.yld jj y1 H5 _ E4 hy hyl1
      have E5 := ((E4.grow g5).push ry1).store (i := i2) (Γ' := ((Γ.set i2 .any).set i (.im xs[n])).set i2 (.im ys[jj])) (by simpa using hi2) rfl
      show wipe ((wipe ((σ.set i2 none).set i (some y)) [i2]).set i2 (some y1)) [i2] = wipe ((σ.set i2 none).set i (some y)) [i2] ∧ te ((wipe ((σ.set i2 none).set i (some y)) [i2]).set i2 (some y1)) H5 _
      rw [s4]
      refine ⟨by show ((((σ.set i2 none).set i (some y)).set i2 (some y1)).set i2 none) = _; rw [List.set_set]; exact s4, ?_⟩
      refine elt xs[n] ys[jj] I5 H5 _ _ _ _ E5 (wpb h4 fun z h4 I6 H6 w E6 => ?_)
      have E7 := anyAt (i := i2) E6 (by simpa using hi2)
      rw [List.set_set, List.set_set, g4, show (((σ.set i2 none).set i (some y)).set i2 none) = (σ.set i2 none).set i (some y) from s4] at E7
      have rz := E7.topR
      obtain ⟨p, vs', e1, hp, _, q, ch, _⟩ := E7.pop.unstack.ownL
      cases e1
      have hlen : vs'.length = acc.length := Paired.length q
      refine ⟨vs', hp, by rw [hlen, ← line_eq]; exact hl, acc ++ [z], I6, ?_, h4⟩
      exact E7.pop.pop.toStack (ch (Grow.refl E7.same) _ _ (paired_app q (.cons rz .nil)))
    · have e : jj = ys.length := by omega
      subst e
      rw [List.drop_eq_nil_of_le (Nat.le_refl _)] at h4
      have h4 : wp ((flR gm f (xs.drop (n + 1)) acc).bind k) P X := h4
      refine .inl ⟨hJ1.stop _ E4 (Nat.le_refl _), acc, I4, ?_, h4⟩
      have z1 := anyAt (i := i) E4 (by simpa using hi)
      rw [List.set_set, List.set_set, ← sw, ← sws] at z1
      exact z1
  · have e : n = xs.length := by omega
    subst e
    rw [List.drop_eq_nil_of_le (Nat.le_refl _)] at h'
    have h' : wp (k acc) P X := h'
    refine .inl ⟨hJ.stop _ EJ (Nat.le_refl _), next acc I' H' _ ?_ h'⟩
    have E7 : Env K I' H' ((σ.set i none).set i2 none) ((Γ.set i .any).set i2 .any) (ρe ++ (o2 :: o :: some (.ref D) :: ρ)) (Θe ++ (c2 :: c :: .own acc :: Θ)) := by
      refine ⟨EJ.1, by have := EJ.2.1; simp only [List.length_append, List.length_cons] at this ⊢; omega, EJ.2.2.perm ((List.Perm.refl _).append ?_)⟩
      rw [List.zip_append hJ.len, List.zip_append hJ.len]
      refine (List.Perm.refl _).append ?_
      show ([(some (V.ref D), Cell.own acc)] ++ [(o2, c2), (o, c)] ++ ρ.zip Θ).Perm ([(o2, c2), (o, c)] ++ [(some (V.ref D), Cell.own acc)] ++ ρ.zip Θ)
      exact List.perm_append_comm.append_right _
    exact ((E7.drops hJ.len).again ho2 hΓ2').again ho hΓ
end
end M
/-! tuples: parts, in, with a star; the empty one -/
namespace M
open PySem PySem.Spec PyProof PyProof.Rows L2
section
variable {K : PySem.W.Frag} {mg : Str → Option Value} {I H I' H' : Hp} {σ σ' ρ : List (Option V)} {Γ Γ' Θ : List Cell} {i j n : Nat} {v v1 v2 : V} {te ti : TE} {t : TA} {Q : VK}
variable {ω : Type} {P : ω → Prop} {X : Exn → Prop} {α β : Type}
/-- t[lo:hi], not the whole of it -/
def cutTp {α : Type} (xs : TupL α) (lo hi : Option Int) : Res (TupL α) := if HT.sIx xs.l.length 0 lo = 0 ∧ HT.sIx xs.l.length xs.l.length hi = xs.l.length then .bad else .ok ⟨cutL xs.l lo hi⟩
theorem Env.pushT [Rep α] {vs : List V} {xs : List α} {p : Addr} (E : Env K I H σ Γ ρ Θ) (hp : H p = none) (r : Paired (fun v x => Rep.rp K I v x) vs xs) : ∃ I', Env K I' (upd H p (.tup vs)) σ Γ (some (.ref p) :: ρ) (.im (TupL.mk xs) :: Θ) :=
  ⟨_, (E.grow (Grow.newI (u := .tup vs) E.same hp)).push ⟨p, vs, rfl, .inl (.inl upd_same), Paired.monoR (fun _ _ z => Rep.mono (fun a o e => by rw [upd_ne (ne_of_none e (E.2.2.none_of hp))]; exact e) z) r⟩⟩
theorem st_slTp [Rep α] {xs : TupL α} {lo hi : Option Int} {k : TupL α → Res ω} (E : Env K I H σ Γ (some v :: ρ) (.im xs :: Θ)) (h : wp ((cutTp xs lo hi).bind k) P X)
    (next : ∀ ys I' H' v, Env K I' H' σ Γ (some v :: ρ) (.im ys :: Θ) → wp (k ys) P X → Q v H') : rSlT K v lo hi H Q := by
  obtain ⟨a, vs, rfl, ha, pr⟩ := E.topR
  have hl : vs.length = xs.l.length := Paired.length pr
  unfold cutTp at h
  by_cases c : HT.sIx xs.l.length 0 lo = 0 ∧ HT.sIx xs.l.length xs.l.length hi = xs.l.length
  · rw [if_pos c] at h
    exact h.elim
  · rw [if_neg c] at h
    refine ⟨a, vs, rfl, same_seqT E.same ha, by rw [hl]; exact c, fun p hp => ?_⟩
    obtain ⟨I', E'⟩ := (Env.pop E).pushT hp (cut_paired pr lo hi)
    exact next _ _ _ _ E' h
/-- a whole number in a tuple of them -/
theorem hf_inTp_of {xs : TupL Int} {neg : Bool} {m : Res Int} (hΓ : Γ[j]? = some (.im xs)) (ht : HF K te Γ m) : HF K (tOp (rIn K neg) te (tVar j)) Γ (m.bind fun x => .ok (if neg = true then !decide (x ∈ xs.l) else decide (x ∈ xs.l))) := .mk fun X Q E q => ht.run X _ E (wpb q fun x q _ => by
  obtain ⟨w, hs, a, vs, rfl, ha, p⟩ := E.get hΓ
  have e := ints_rp p
  subst e
  refine ⟨_, hs, a, _, rfl, .inr (same_seqT E.same ha), rfl, flat_ints _, ?_⟩
  show Q (.bl (if neg = true then !inV (.int x) (xs.l.map V.int) else inV (.int x) (xs.l.map V.int))) _
  rw [inV_ints]
  exact q trivial)
theorem hf_inTp {xs : TupL Int} {m : Res Int} (hΓ : Γ[j]? = some (.im xs)) (ht : HF K te Γ m) : HF K (tOp (rIn K false) te (tVar j)) Γ (m.bind fun x => .ok (decide (x ∈ xs.l))) := hf_inTp_of (neg := false) hΓ ht
theorem hf_niTp {xs : TupL Int} {m : Res Int} (hΓ : Γ[j]? = some (.im xs)) (ht : HF K te Γ m) : HF K (tOp (rIn K true) te (tVar j)) Γ (m.bind fun x => .ok (!decide (x ∈ xs.l))) := hf_inTp_of (neg := true) hΓ ht
end
end M
namespace M
open PySem PySem.Spec PyProof PyProof.Rows L2
/-- (x, *ys) -/
theorem st_starT {K : PySem.W.Frag} {I H : Hp} {σ ρ : List (Option V)} {Γ Θ : List Cell} {Q : VK} {ω : Type} {P : ω → Prop} {X : Exn → Prop} {α : Type} [Rep α] {x : α} {ys : List α} {v1 v2 : V} {k : List α → Res ω} (E : Env K I H σ Γ (some v2 :: some v1 :: ρ) (.im ys :: .im x :: Θ)) (h : wp ((lCat [x] ys).bind k) P X)
    (next : ∀ zs I' H' v, Env K I' H' σ Γ (some v :: ρ) (.im (TupL.mk zs) :: Θ) → wp (k zs) P X → Q v H') : ∃ p xs, v2 = V.ref p ∧ (SqT K H p xs ∨ SqL K H p xs) ∧ tNil σ H fun zs H2 => TpG (v1 :: (xs ++ zs)) H2 Q := by
  obtain ⟨p, vs, e, hq, pr⟩ := E.topR
  have r1 := E.pop.topR
  have hl : vs.length = ys.length := Paired.length pr
  unfold lCat at h
  rw [clo_eq] at h
  by_cases hz : [x].length + ys.length ≤ line
  · rw [if_pos hz] at h
    refine ⟨p, vs, e, .inr (SqL.of (E.same _ _ hq)), ?_⟩
    show TpG (v1 :: (vs ++ [])) H Q
    rw [List.append_nil]
    refine ⟨line_of ?_, fun p hp => ?_⟩
    · rw [List.length_cons, hl]
      simp at hz
      omega
    · obtain ⟨I', E'⟩ := E.pop.pop.pushT hp (Paired.cons r1 pr)
      exact next _ _ _ _ E' h
  · rw [if_neg hz] at h
    exact h.elim
end M
/-! for in the body of a generator def -/
namespace GF
open PySem PySem.Spec PyProof PyProof.Rows L2
section
variable {M : Model} {A : Around} {R : GenEnd} {Y : Protocol} {n : Nat} {s₀ : Shared} {c : Code} {fs : List Frame} {s : Shared} {env : Env} {K : Flow → Sem PySem.Fin} {H : Value → Sem PySem.Fin} {gd : Bool → Bool} {lv : List Value → List Value}
theorem seg_For {target iter : Expr} {body orelse : List Stmt} {pos : Pos}
    (h : wpAny M (A.over c fs) (eval iter env) (fun x s1 => wpAny M (A.over c fs) (pyIter x) (fun it s2 => ∀ p, Seg M A R Y n s₀ (.forLoop target it body orelse env) (M.den (.forLoop target it body orelse env))
      (.ret (fun r => ((match r with | .ok f => (.pure f : Sem Flow) | .error e => .raise e).onRaise fun (x : Value) => do
        if (← field x 1) == Value.none then unsupported "frame.own-activation:exception-without-traceback"
        setFlight x env.frame).wrap K H gd lv) none (gd false) (lv []) c p [] :: fs) s2) (fun x s' => Seg M A R Y n s₀ c (H x) fs s') s1) (fun x s' => Seg M A R Y n s₀ c (H x) fs s') s)
    (hs : ∀ x, foldedSetIterable iter env x = pure x) :
    Seg M A R Y n s₀ c ((exec (.For target iter body orelse pos) env).wrap K H gd lv) fs s := by
  rw [exec_For]
  refine seg_bind_wrap (wpAny_standAt ?_)
  refine seg_bind_wrap (wpAny_mono h (fun x s1 h1 => ?_) fun _ _ z => z)
  refine seg_bind_wrap (wpAny_of_eq (hs x) ?_)
  refine seg_bind_wrap (wpAny_standAt ?_)
  refine seg_bind_wrap (wpAny_holding (wpAny_mono h1 (fun it s2 h2 => ?_) fun _ _ z => z))
  exact seg_call h2
end
section
variable {prog : Program} {w : World} {A : Around} {R : GenEnd} {Y : Protocol} {n : Nat} {s₀ : Shared} {fs : List Frame} {s : Shared} {env : Env}
/-- what a loop does with an exception of its turn -/
def goesBy (env : Env) (x : Value) : Sem PySem.Fin := (do noteFrame x env; theTreesLotGoes x : Sem Unit).wrap (fun _ => .raise x) .raise id id
theorem seg_block {c : Code} (hc : c = .block [] env) (h : Seg (model prog w) A R Y n s₀ c (.pure (.done .next)) fs s) : Seg (model prog w) A R Y n s₀ c ((model prog w).den c) fs s := by
  subst hc
  exact h
theorem seg_forLoop {target : Expr} {it : Value} {body : List Stmt}
    (h : wpAny (model prog w) (A.over (.forLoop target it body [] env) fs) (pyNext it) (fun r s1 => match r with
        | none => Seg (model prog w) A R Y n s₀ (.block [] env) ((model prog w).den (.block [] env)) fs s1
        | some v => wpAny (model prog w) (A.over (.forLoop target it body [] env) fs) (letOwnedTupleGo target it v) (fun _ s2 => wpAny (model prog w) (A.over (.forLoop target it body [] env) fs) (assign target env v) (fun _ s3 =>
            Seg (model prog w) A R Y n s₀ (.forLoop target it body [] env) ((execs body env).wrap (fun f => match f with
              | .next | .cont => .pure (.again (.forLoop target it body [] env))
              | .brk => .pure (.done .next)
              | .ret v => .pure (.done (.ret v))) (goesBy env) id id) fs s3)
            (fun x s' => Seg (model prog w) A R Y n s₀ (.forLoop target it body [] env) (goesBy env x) fs s') s2)
          (fun x s' => Seg (model prog w) A R Y n s₀ (.forLoop target it body [] env) (goesBy env x) fs s') s1)
      (fun x s' => Seg (model prog w) A R Y n s₀ (.forLoop target it body [] env) (goesBy env x) fs s') s) :
    Seg (model prog w) A R Y n s₀ (.forLoop target it body [] env) ((model prog w).den (.forLoop target it body [] env)) fs s := by
  show Seg _ A R Y n s₀ _ ((forTurn target it body [] env).onRaise (fun x => do noteFrame x env; theTreesLotGoes x)) fs s
  have hg : ∀ x : Value, ((do noteFrame x env; theTreesLotGoes x : Sem Unit).bind fun _ => (.raise x : Sem PySem.Fin)) = goesBy env x := fun x => by
    unfold goesBy
    rw [Sem.bind_eq_wrap]
  rw [Sem.onRaise_eq_wrap]
  unfold forTurn
  refine seg_bind_wrap (wpAny_standAt ?_)
  refine seg_bind_wrap (wpAny_onRaise (wpAny_mono h (fun r s1 h1 => ?_) fun x s' hx => wpAny_standAt ?_))
  · cases r with
    | none => exact seg_again rfl h1
    | some v =>
      refine seg_bind_wrap (wpAny_mono h1 (fun _ s2 h2 => ?_) fun x s' hx => ?_)
      · refine seg_bind_wrap (wpAny_mono h2 (fun _ s3 h3 => ?_) fun x s' hx => ?_)
        · show Seg _ A R Y n s₀ _ (Sem.wrap _ _ _ _ ((execs body env) >>= _)) fs s3
          rw [Sem.bind_eq_wrap', Sem.wrap_wrap]
          rw [Sem.wrap_congr (execs body env) _ _ (K' := fun f => match f with
              | .next | .cont => .pure (.again (.forLoop target it body [] env))
              | .brk => .pure (.done .next)
              | .ret v => .pure (.done (.ret v))) (H' := goesBy env)
            (fun f => by cases f <;> rfl)
            (fun e => by first | exact hg e | (show (do noteFrame e env; theTreesLotGoes e : Sem Unit).bind (fun _ => .raise e) = _; exact hg e))]
          exact h3
        · first | exact hx | (rw [← hg] at hx; exact hx)
      · first | exact hx | (rw [← hg] at hx; exact hx)
  · first | exact hx | (rw [← hg] at hx; exact hx)
end
end GF
namespace GF
open PySem PySem.Spec PyProof PyProof.Rows L2
def tGFor (wi : TI) (g : TG) (tb : TGn) : TGn := fun D ys σ H => wi σ H fun J H1 => ∃ W : Nat → Nat → List V → L2.St → Hp → Prop, (∃ m, W 0 m ys σ H1) ∧ ∀ i m ys σ H, W i m ys σ H →
  (J.stop i H ∧ D.nx ys σ H) ∨ (J.go i H ∧ ∃ N : List V → L2.St → Hp → Prop, (∀ ys' σ' H', N ys' σ' H' → ∃ m', m' < m ∧ W (i + 1) m' ys' σ' H') ∧ ∀ x H', J.yld i H x H' → g x σ H' fun σ2 H2 => tb { D with nx := N, ct := N, bk := D.nx } ys σ2 H2)
section
variable {X : Cx}
theorem gs_for {tg iter : Expr} {body : List Stmt} {wi : TI} {g : TG} {tb : TGn} {pos : Pos} (hp : PassesOwn (model X.prog X.w) X.A X.env X.xe) (hcalm : X.calm = true) (hi : PI X tg iter wi) (hg : PG X tg g) (hb : GSs X body tb)
    (hs : ∀ x, foldedSetIterable iter X.env x = pure x := by intro _; rfl) : GS X (.For tg iter body [] pos) (tGFor wi g tb) := by
  refine ⟨fun A S ip R n ys s₀ c fs K J gd lv s σ H D gc hn k hI ht => ?_⟩
  obtain ⟨acc, cc, r, I⟩ := hI
  have ex : ∀ (x : Value) (s' : Shared), X.xe x s' → Seg (model X.prog X.w) A R (GY X S) n s₀ c (J x) fs s' := fun x s' hx => k.exc n s₀ x s' hx
  refine seg_For ?_ hs
  rw [gc.over]
  refine wpAny_mono (hi.run _ s σ H _ I ht) (fun v s1 h1 => wpAny_mono h1 (fun itv s2 h2 => ?_) ex) ex
  obtain ⟨it, fp, tn, Jt, H2, e, I2, T, st2, f2, W, ⟨m0, w0⟩, turn⟩ := h2
  subst e
  intro p
  have stat : ∀ {H' : Hp} {acc' : Array Value} {cc' : Nat}, (∀ b ∈ fp, H' b = none) → ∀ b ∈ fp, FpOk X ((S, lstObj acc' cc') :: ip) H' b := fun {H' acc' cc'} hn b hb => by
    refine ⟨hn b hb, ?_⟩
    have z := (f2 b hb).2
    refine ⟨z.1, z.2.1, z.2.2.1, z.2.2.2.1, fun q hq => ?_⟩
    rcases List.mem_append.mp hq with h | h
    · exact z.2.2.2.2 q (List.mem_append_left _ h)
    · rcases List.mem_cons.mp h with h | h
      · subst h
        exact z.2.2.2.2 (S, lstObj acc cc) (List.mem_append_right _ List.mem_cons_self)
      · exact z.2.2.2.2 q (List.mem_append_right _ (List.mem_cons_of_mem _ h))
  have fpS : ∀ b ∈ fp, b ≠ S := fun b hb e => (f2 b hb).2.2.2.2.2 (S, lstObj acc cc) (List.mem_append_right _ List.mem_cons_self) e.symm
  have gl := fun (kk : Result → Sem PySem.Fin) => gc_loop (k := kk) (c' := .forLoop tg (.ref it) body [] X.env) (l := lv []) (kp := []) (p := p) gc rfl rfl
  have loop : ∀ (m i n : Nat) (ys : List V) (s₀ s : Shared) (σ : L2.St) (H : Hp), n + ys.length = sizeLine → W i m ys σ H → GI X S ip ys σ H s → tn i s.heap → (∀ b ∈ fp, H b = none) →
      Seg (model X.prog X.w) A R (GY X S) n s₀ (.forLoop tg (.ref it) body [] X.env) ((model X.prog X.w).den (.forLoop tg (.ref it) body [] X.env))
        (.ret (fun r => ((match r with | .ok f => (.pure f : Sem Flow) | .error e => .raise e).onRaise (cameBack X.env)).wrap K J gd lv) none (gd false) (lv []) c p [] :: fs) s := by
    intro m
    induction m using Nat.strongRecOn with
    | ind m ih =>
      intro i n ys s₀ s σ H hn w hI st3 fr3
      have ee : ∀ (n : Nat) (s₀ : Shared) (x : Value) (s' : Shared), X.xe x s' → Seg (model X.prog X.w) A R (GY X S) n s₀ (.forLoop tg (.ref it) body [] X.env) (goesBy X.env x)
          (.ret (fun r => ((match r with | .ok f => (.pure f : Sem Flow) | .error e => .raise e).onRaise (cameBack X.env)).wrap K J gd lv) none (gd false) (lv []) c p [] :: fs) s' := fun n s₀ x s' hx => by
        unfold goesBy
        refine seg_wrap ?_
        rw [(gl _).over]
        refine wpAny_bind (wpAny_mono (hp x s' hx) (fun _ s'' hcb => wpAny_theTreesLotGoes ?_) fun y s'' hcb => ?_)
        · exact seg_leaf (.error x) (seg_cameBack gc k hcb)
        · exact seg_leaf (.error y) (seg_cameBack gc k hcb)
      refine seg_forLoop ?_
      rw [(gl _).over]
      obtain ⟨acc, cc, r, I⟩ := hI
      rcases turn i m ys σ H w with ⟨stop, qn⟩ | ⟨go, N, hN, step⟩
      · refine wpAny_mono (T.done X rfl rfl rfl hcalm i _ s σ H X.xe I (stat fr3) st3 stop) (fun r4 s4 h4 => ?_) fun x s' hx => ee n s₀ x s' hx
        obtain ⟨hr, I4⟩ := h4
        subst hr
        refine seg_block rfl ?_
        exact seg_leaf (.ok .next) (k.ok n ys s₀ s4 .next hn ⟨σ, H, ⟨acc, cc, r, I4⟩, qn⟩)
      · refine wpAny_mono (T.item X rfl rfl rfl hcalm i _ s σ H X.xe I (stat fr3) st3 go) (fun r4 s4 h4 => ?_) fun x s' hx => ee n s₀ x s' hx
        obtain ⟨u, hr, h4⟩ := h4
        subst hr
        refine wpAny_mono h4 (fun _ s5 h5 => ?_) fun x s' hx => ee n s₀ x s' hx
        obtain ⟨x, H5, I5, r5, y5, st5, fr5⟩ := h5
        have I5' := I5.pinned (stat fr5) (T.obj _ _ st5)
        refine wpAny_mono (hg.run _ s5 σ H5 x u _ I5' r5 (step x H5 y5)) (fun _ s6 h6 => ?_) fun x s' hx => ee n s₀ x s' hx
        obtain ⟨σ6, H6, I6, q6⟩ := h6
        have gip : ∀ q ∈ ip ++ pinsAt fp s5.heap, q.1 ≠ S := fun q hq => by
          rcases List.mem_append.mp hq with h | h
          · exact gc.ip q h
          · exact fpS _ (of_pinsAt h).1
        have gl2 : GC X S (ip ++ pinsAt fp s5.heap) A (.forLoop tg (.ref it) body [] X.env) (.ret (fun r => ((match r with | .ok f => (.pure f : Sem Flow) | .error e => .raise e).onRaise (cameBack X.env)).wrap K J gd lv) none (gd false) (lv []) c p [] :: fs) id :=
          ⟨gc.pn, gip, gc.apart, (gl _).over, (gl _).split, (gl _).guard, rfl⟩
        have back : ∀ {ys7 : List V} {σ7 : L2.St} {H7 : Hp} {s7 : Shared}, GI X S (ip ++ pinsAt fp s5.heap) ys7 σ7 H7 s7 → GI X S ip ys7 σ7 H7 s7 ∧ tn (i + 1) s7.heap ∧ ∀ b ∈ fp, H7 b = none := fun {ys7 σ7 H7 s7} h => by
          obtain ⟨a7, c7, r7, I7⟩ := h
          have pin : ∀ b ∈ fp, ∀ o, s5.heap.get? b = some o → s7.heap.get? b = some o ∧ H7 b = none := fun b hb o e => by
            have z := I7.pin (b, o) (List.mem_append_right _ (List.mem_cons_of_mem _ (List.mem_append_right _ (mem_pinsAt hb e))))
            exact ⟨z.1, z.2.1⟩
          refine ⟨⟨a7, c7, r7, I7.pins_of fun q hq => ?_⟩, T.keep _ _ _ st5 fun b hb o e => (pin b hb o e).1, fun b hb => ?_⟩
          · rcases List.mem_cons.mp hq with h | h
            · rw [h]
              exact I7.pin _ (List.mem_append_right _ List.mem_cons_self)
            · exact I7.pin q (List.mem_append_right _ (List.mem_cons_of_mem _ (List.mem_append_left _ h)))
          · obtain ⟨o, e, _⟩ := T.obj _ _ st5 b hb
            exact (pin b hb o e).2
        refine hb.run A S (ip ++ pinsAt fp s5.heap) R n ys s₀ _ _ _ _ id id s6 σ6 H6 { D with nx := N, ct := N, bk := D.nx } gl2 hn ⟨fun n' ys' s₀' s3 f hn' hs => ?_, fun n' s₀' x s3 hx => ee n' s₀' x s3 hx⟩ ⟨acc, cc, r, I6⟩ q6
        cases f with
        | next =>
          obtain ⟨σ3, H3, I3, n3⟩ := hs
          obtain ⟨m', hm, w3⟩ := hN ys' σ3 H3 n3
          obtain ⟨z1, z2, z3⟩ := back I3
          exact seg_again rfl (ih m' hm (i + 1) n' ys' s₀' s3 σ3 H3 hn' w3 z1 z2 z3)
        | cont =>
          obtain ⟨σ3, H3, I3, n3⟩ := hs
          obtain ⟨m', hm, w3⟩ := hN ys' σ3 H3 n3
          obtain ⟨z1, z2, z3⟩ := back I3
          exact seg_again rfl (ih m' hm (i + 1) n' ys' s₀' s3 σ3 H3 hn' w3 z1 z2 z3)
        | brk =>
          obtain ⟨σ3, H3, I3, n3⟩ := hs
          exact seg_leaf (.ok .next) (k.ok n' ys' s₀' s3 .next hn' ⟨σ3, H3, (back I3).1, n3⟩)
        | ret v =>
          obtain ⟨v3, σ3, H3, I3, r3, n3⟩ := hs
          exact seg_leaf (.ok (.ret v)) (k.ok n' ys' s₀' s3 (.ret v) hn' ⟨v3, σ3, H3, (back I3).1, r3, n3⟩)
  exact loop m0 0 n ys s₀ s2 σ H2 hn w0 ⟨acc, cc, r, I2⟩ st2 fun b hb => (f2 b hb).1
end
end GF
/-! generator defs that raise nothing -/
namespace M
open PySem PySem.Spec PyProof PyProof.Rows L2
def SpGM (K : PySem.W.Frag) {A β : Type} [Rep β] (n : Nat) (cells : A → List Cell) (m : A → Res (List β)) : SpG := fun vs H cont E =>
  vs.length = n ∧ ∃ (a : A) (I : Hp) (ρ : List (Option V)) (Θ : List Cell), Env K I H (vs.map some) (cells a) ρ Θ ∧
    wp (m a) (fun b => ∀ I' H' ws, Env K I' H' [] [] ρ Θ → Paired (fun v x => Rep.rp K I' v x) ws b → cont ws H') (fun _ => False)
theorem okG {P : Program} {w : World} {K : PySem.W.Frag} {mg : Str → Option Value} {base : Heap} {x qual : Str} {st : Stmt} {f : Addr} {fd : FuncData} {N ps : List Str} {k : Nat} {sp : SpG} (F : Fun K x qual st f fd) (S : GScope N ps (defScope st)) (len : ∀ vs H Q E, sp vs H Q E → vs.length = ps.length)
    (hbody : ∀ (cdv : Value) (A : Around) (outer : List PySem.Env) (s : Shared) (H : Hp) (vs : List V) (Q : List V → Hp → Prop) (E : XK) (pn : List (Addr × Obj)), Room k (A.deeper (envOfC qual (defScope st) s.heap.objs.size f cdv)) → sp vs H Q E →
      ∃ t, GSs (gcxOf P w K mg base N qual (defScope st) f cdv A outer s H E pn) (defBody st) t ∧ t { nx := fun ys _ H' => Q ys H', rt := fun ys v H' => v = .non ∧ Q ys H' } [] (L2.start N vs) H) : GFn P w K mg base (k + 1) f fd ps sp := by
  obtain ⟨oc, od, kV, doc, pm, an, cdv, ct, osl, rfl, lk, hcd⟩ := F.ex
  exact gfn_of lk hcd S len fun A outer s H vs Q E pn hr hsp => hbody cdv A outer s H vs Q E pn hr hsp
section
variable {K : PySem.W.Frag} {mg : Str → Option Value} {I H I' H' : Hp} {σ σ' ρ : List (Option V)} {Γ Γ' Θ : List Cell} {i j n : Nat} {v : V} {c : Cell} {te tl : TE} {g : TG}
variable {ω : Type} {P : ω → Prop} {X : Exn → Prop} {α β : Type}
theorem Env.mid {a b r : List (Option V)} {p q t : List Cell} (E : Env K I H σ Γ (a ++ (b ++ r)) (p ++ (q ++ t))) (h1 : a.length = p.length) (h2 : b.length = q.length) : Env K I H σ Γ (b ++ (a ++ r)) (q ++ (p ++ t)) := by
  refine ⟨E.1, ?_, E.2.2.perm ((List.Perm.refl _).append ?_)⟩
  · have := E.2.1
    simp only [List.length_append] at this ⊢
    omega
  · rw [List.zip_append h1, List.zip_append h2, List.zip_append h2, List.zip_append h1, ← List.append_assoc, ← List.append_assoc]
    exact List.perm_append_comm.append_right _
theorem st_gfor [Rep α] [Rep β] {D : GEnds} {xs : List α} {J : It} {ρe : List (Option V)} {Θe : List Cell} {f : α → Res β} {k : List β → Res ω} (G : List Cell) (hJ : Feeds K J xs ρe Θe)
    (E : Env K I H σ Γ (ρe ++ ρ) (Θe ++ Θ)) (w : Wk Γ G) (h : wp ((lcM f xs).bind k) P X)
    (turn : ∀ x I' H' σ' y ρ' Θ' (Z : V → L2.St → Hp → Prop) (L : Prop), L → Env K I' H' σ' G (some y :: ρ') (.im x :: Θ') → wp (f x) (fun b => ∀ I'' H'' σ'' v, Env K I'' H'' σ'' G (some v :: ρ') (.im b :: Θ') → Z v σ'' H'') X → g y σ' H' fun σ2 H2 => L ∧ te σ2 H2 fun v H3 => Z v σ2 H3)
    (next : ∀ ys I' H' σ' ws, Env K I' H' σ' G ρ Θ → Paired (fun v x => Rep.rp K I' v x) ws ys → wp (k ys) P X → D.nx ws σ' H') :
    ∃ W : Nat → Nat → List V → L2.St → Hp → Prop, (∃ m, W 0 m [] σ H) ∧ ∀ i m ys σ H, W i m ys σ H →
      (J.stop i H ∧ D.nx ys σ H) ∨ (J.go i H ∧ ∃ N : List V → L2.St → Hp → Prop, (∀ ys' σ' H', N ys' σ' H' → ∃ m', m' < m ∧ W (i + 1) m' ys' σ' H') ∧ ∀ x H', J.yld i H x H' → g x σ H' fun σ2 H2 => (tGThen (tGYield te) tG0) { D with nx := N, ct := N, bk := D.nx } ys σ2 H2) := by
  unfold lcM at h
  rw [clo_eq] at h
  by_cases hz : xs.length ≤ line
  case neg =>
    rw [if_neg hz] at h
    exact h.elim
  rw [if_pos hz] at h
  refine ⟨fun i m ys σ H => m = xs.length - i ∧ i ≤ xs.length ∧ ∃ (done : List β) (I' : Hp), ys.length = done.length ∧ ys.length ≤ i ∧ Env K I' H σ G ((ys.map some).reverse ++ (ρe ++ ρ)) ((done.map Cell.im).reverse ++ (Θe ++ Θ)) ∧
    wp ((mapR f (xs.drop i)).bind fun zs => k (done ++ zs)) P X, ⟨xs.length, by simp, Nat.zero_le _, [], I, rfl, Nat.zero_le _, E.weak w, h⟩, ?_⟩
  rintro i m ys σ H ⟨rfl, hi, done, I', hl, hl2, E', h'⟩
  have len2 : ((ys.map some).reverse).length = ((done.map (Cell.im (α := β))).reverse).length := by simp [hl]
  have EJ := E'.mid len2 hJ.len
  by_cases hlt : i < xs.length
  · have hx : xs[i]? = some xs[i] := List.getElem?_eq_getElem hlt
    rw [mapR_at hx, Res.bind_assoc] at h'
    refine .inr ⟨hJ.go i EJ hlt, fun ys' σ2 H3 => ∃ (done : List β) (I' : Hp), ys'.length = done.length ∧ ys'.length ≤ i + 1 ∧ Env K I' H3 σ2 G ((ys'.map some).reverse ++ (ρe ++ ρ)) ((done.map Cell.im).reverse ++ (Θe ++ Θ)) ∧
      wp ((mapR f (xs.drop (i + 1))).bind fun zs => k (done ++ zs)) P X, fun ys' σ' H' z => ⟨xs.length - (i + 1), by omega, rfl, hlt, z⟩, fun y H2 hy => ?_⟩
    obtain ⟨I2, g2, ry⟩ := hJ.yld i y H2 _ EJ hx hy
    have E3 := (E'.grow g2).push ry
    have lt : ys.length < sizeLine := by rw [← line_eq]; omega
    refine turn xs[i] I2 H2 σ y _ _ (fun v σ2 H3 => ∃ (done : List β) (I' : Hp), (ys ++ [v]).length = done.length ∧ (ys ++ [v]).length ≤ i + 1 ∧ Env K I' H3 σ2 G (((ys ++ [v]).map some).reverse ++ (ρe ++ ρ)) ((done.map Cell.im).reverse ++ (Θe ++ Θ)) ∧
      wp ((mapR f (xs.drop (i + 1))).bind fun zs => k (done ++ zs)) P X) _ lt E3 (wpb h' fun b h' I4 H4 σ4 v E4 => ?_)
    rw [Res.bind_assoc] at h'
    refine ⟨done ++ [b], I4, by simp [hl], by simp; omega, ?_, ?_⟩
    · rw [List.map_append, List.map_append, List.reverse_append, List.reverse_append]
      exact E4
    · have e : (fun zs => k (done ++ b :: zs)) = fun zs => k ((done ++ [b]) ++ zs) := by
        funext zs
        rw [List.append_assoc]
        rfl
      rw [← e]
      exact h'
  · have e : i = xs.length := by omega
    subst e
    rw [List.drop_eq_nil_of_le (Nat.le_refl _)] at h'
    have h' : wp (k (done ++ [])) P X := h'
    rw [List.append_nil] at h'
    refine .inl ⟨hJ.stop _ EJ (Nat.le_refl _), ?_⟩
    obtain ⟨pr, E5⟩ := E'.collect hl
    exact next done I' H σ ys (E5.drops hJ.len) pr h'
end
end M
namespace M
open PySem PySem.Spec PyProof PyProof.Rows L2
section
variable {K : PySem.W.Frag} {I H : Hp} {σ ρ : List (Option V)} {Γ Θ : List Cell} {Q : VK} {ω : Type} {P : ω → Prop} {X : Exn → Prop}
theorem Env.leaveG (E : Env K I H [] [] (σ ++ ρ) (Γ ++ Θ)) (hl : σ.length = Γ.length) : Env K I H σ Γ ρ Θ := by
  refine ⟨hl, ?_, ?_⟩
  · have := E.2.1
    simp only [List.length_append] at this
    omega
  · have := E.2.2
    rw [List.zip_append hl] at this
    exact this
/-- list(g(..)), the generator raises nothing -/
theorem st_listG {A β : Type} [Rep β] {n : Nat} {cells : A → List Cell} {m : A → Res (List β)} {vs : List V} {E0 : XK} (a : A) {k : List β → Res ω} (E : Env K I H σ Γ ((vs.map some).reverse ++ ρ) ((cells a).reverse ++ Θ)) (hn : vs.length = n) (hc : (cells a).length = n)
    (h : wp ((noX (m a)).bind k) P X) (next : ∀ b I' H' v, Env K I' H' σ Γ (some v :: ρ) (.im b :: Θ) → wp (k b) P X → Q v H') : SpGM K n cells m vs H (fun out H2 => ∀ p, H2 p = none → Q (.ref p) (upd H2 p (.lst out))) E0 := by
  refine ⟨hn, a, I, σ ++ ρ, Γ ++ Θ, E.enter (by rw [List.length_map, hn, hc]), ?_⟩
  refine wp_noX (wp_bind.mp h) |> fun z => wp_mono z (fun b q I' H' ws E' pr => ?_) fun _ z => z
  exact st_newI (E'.leaveG E.1) pr fun I' H' v E2 => next b I' H' v E2 q
end
theorem passNone {CX : CXT} {X : Cx} (h : ∀ outer H s e s', ¬ CX outer H s (fun _ _ _ => False) e s') : Passes CX X (fun _ _ _ => False) := fun _ _ _ _ _ _ _ c => (h _ _ _ _ _ c).elim
theorem noCX {P : Program} {w : World} : ∀ outer H s e s', ¬ L2.CX P w outer H s (fun _ _ _ => False) e s' := fun outer H s e s' c => by
  obtain ⟨a, B, H', cls, d, z1, fl, z2, ub, z3, z4, z5, z6⟩ := c
  exact (by first | exact z4.elim | exact z3.elim | exact z5.elim | exact z6.elim | exact z2.elim)
end M
namespace M
open PySem PySem.Spec PyProof PyProof.Rows L2
/-- heads of a generator's body -/
theorem uGThen {t : TS} {u : TGn} {D : GEnds} {ys : List V} {σ : L2.St} {H : Hp} (h : t ⟨fun σ' H' => u D ys σ' H', D.rt ys, D.bk ys, D.ct ys⟩ σ H) : tGThen (tPlain t) u D ys σ H := h
def GFG (J : It) (g : TG) (tb : TGn) (D : GEnds) (ys : List V) (σ : L2.St) (H1 : Hp) : Prop := ∃ W : Nat → Nat → List V → L2.St → Hp → Prop, (∃ m, W 0 m ys σ H1) ∧ ∀ i m ys σ H, W i m ys σ H →
  (J.stop i H ∧ D.nx ys σ H) ∨ (J.go i H ∧ ∃ N : List V → L2.St → Hp → Prop, (∀ ys' σ' H', N ys' σ' H' → ∃ m', m' < m ∧ W (i + 1) m' ys' σ' H') ∧ ∀ x H', J.yld i H x H' → g x σ H' fun σ2 H2 => tb { D with nx := N, ct := N, bk := D.nx } ys σ2 H2)
theorem uGFor {wi : TI} {g : TG} {tb : TGn} {D : GEnds} {ys : List V} {σ : L2.St} {H : Hp} (h : wi σ H fun J H1 => GFG J g tb D ys σ H1) : tGThen (GF.tGFor wi g tb) tG0 D ys σ H := h
def LGG (sp : SpG) (E : XK) (vs : List V) (H : Hp) (Q : VK) : Prop := sp (vs ++ []) H (fun out H2 => ∀ p, H2 p = none → Q (.ref p) (upd H2 p (.lst out))) E
theorem uListG {sp : SpG} {E : XK} {t : TA} {σ : L2.St} {H : Hp} {Q : VK} (h : t σ H fun vs H1 => LGG sp E vs H1 Q) : tListG (tCallG sp [] E t) σ H Q := h
section
variable {K : PySem.W.Frag} {I H : Hp} {σ ρ : List (Option V)} {Γ Θ : List Cell} {Q : VK} {ω : Type} {P : ω → Prop} {X : Exn → Prop}
theorem st_listGI {A β : Type} [Rep β] {n : Nat} {cells : A → List Cell} {m : A → Res (List β)} {vs : List V} {E0 : XK} (a : A) {k : List β → Res ω} (E : Env K I H σ Γ ((vs.map some).reverse ++ ρ) ((cells a).reverse ++ Θ)) (hn : vs.length = n) (hc : (cells a).length = n)
    (h : wp ((noX (m a)).bind k) P X) (next : ∀ b I' H' v, Env K I' H' σ Γ (some v :: ρ) (.im b :: Θ) → wp (k b) P X → Q v H') : LGG (SpGM K n cells m) E0 vs H Q := by
  unfold LGG
  rw [List.append_nil]
  exact st_listG a E hn hc h next
end
theorem st_gfor' {K : PySem.W.Frag} {I H : Hp} {σ ρ : List (Option V)} {Γ Θ : List Cell} {te : TE} {g : TG} {ω : Type} {P : ω → Prop} {X : Exn → Prop} {α β : Type} [Rep α] [Rep β] {D : GEnds} {xs : List α} {J : It} {ρe : List (Option V)} {Θe : List Cell} {f : α → Res β} {k : List β → Res ω} (G : List Cell) (hJ : Feeds K J xs ρe Θe)
    (E : Env K I H σ Γ (ρe ++ ρ) (Θe ++ Θ)) (w : Wk Γ G) (h : wp ((lcM f xs).bind k) P X)
    (turn : ∀ x I' H' σ' y ρ' Θ' (Z : V → L2.St → Hp → Prop) (L : Prop), L → Env K I' H' σ' G (some y :: ρ') (.im x :: Θ') → wp (f x) (fun b => ∀ I'' H'' σ'' v, Env K I'' H'' σ'' G (some v :: ρ') (.im b :: Θ') → Z v σ'' H'') X → g y σ' H' fun σ2 H2 => L ∧ te σ2 H2 fun v H3 => Z v σ2 H3)
    (next : ∀ ys I' H' σ' ws, Env K I' H' σ' G ρ Θ → Paired (fun v x => Rep.rp K I' v x) ws ys → wp (k ys) P X → D.nx ws σ' H') : GFG J g (tGThen (tGYield te) tG0) D [] σ H := st_gfor G hJ E w h turn next
end M
namespace M
open PySem PySem.Spec PyProof PyProof.Rows L2
section
variable {K : PySem.W.Frag} {I H : Hp} {σ ρ : List (Option V)} {Γ Θ : List Cell} {te : TE} {j : Nat}
theorem hf_inSq_of {xs : SeqL Int} {neg : Bool} {m : Res Int} (hΓ : Γ[j]? = some (.im xs)) (ht : HF K te Γ m) : HF K (tOp (rIn K neg) te (tVar j)) Γ (m.bind fun x => .ok (if neg = true then !decide (x ∈ xs.l) else decide (x ∈ xs.l))) := .mk fun X Q E q => ht.run X _ E (wpb q fun x q _ => by
  obtain ⟨w, hs, r⟩ := E.get hΓ
  obtain ⟨a, vs, rfl, ha, p⟩ := seq_at r E.same
  have e := ints_rp p
  subst e
  refine ⟨_, hs, a, _, rfl, ha, rfl, flat_ints _, ?_⟩
  show Q (.bl (if neg = true then !inV (.int x) (xs.l.map V.int) else inV (.int x) (xs.l.map V.int))) _
  rw [inV_ints]
  exact q trivial)
theorem hf_inSq {xs : SeqL Int} {m : Res Int} (hΓ : Γ[j]? = some (.im xs)) (ht : HF K te Γ m) : HF K (tOp (rIn K false) te (tVar j)) Γ (m.bind fun x => .ok (decide (x ∈ xs.l))) := hf_inSq_of (neg := false) hΓ ht
theorem hf_niSq {xs : SeqL Int} {m : Res Int} (hΓ : Γ[j]? = some (.im xs)) (ht : HF K te Γ m) : HF K (tOp (rIn K true) te (tVar j)) Γ (m.bind fun x => .ok (!decide (x ∈ xs.l))) := hf_inSq_of (neg := true) hΓ ht
end
end M
namespace SrtM
open PySem PySem.W PySem.Calls PyProof.Rows SrtO
section
variable {M : Model} {prog : Program} {w : World} {A : Around} {E : Value → Shared → Prop} {s : Shared} {K : Frag}
theorem mapM_of {α β : Type} {f : α → Sem β} {r : α → β} : ∀ (l : List α) {Q : List β → Shared → Prop}, (∀ v ∈ l, ∀ (Q' : β → Shared → Prop), Q' (r v) s → wpAny M A (f v) Q' E s) → Q (l.map r) s → wpAny M A (l.mapM f) Q E s
  | [], _, _, h => by rw [List.mapM_nil]; exact wpAny_pure h
  | x :: l, Q, hf, h => by
    rw [List.mapM_cons]
    exact wpAny_bind (hf x (.head _) _ (wpAny_bind (mapM_of l (Q := fun bs s' => wpAny M A (pure (r x :: bs)) Q E s') (fun v hv => hf v (.tail _ hv)) (wpAny_pure h))))
theorem tup_looks {h : Heap} {v : Value} {ns : List Int} (x : IsTupI h v ns) : Looks M h (typeOf v) (.type "tuple") := by
  obtain ⟨a, o, xs, n, rfl, ho, hc, hd, i⟩ := x
  exact (Looks.ld ho).andThen (by rw [← hc]; exact .now)
/-- tuple.__lt__ of two plain tuples, called -/
theorem call_ltT {a b : Addr} {dd dd2 : Option Addr} {items items2 : Array Value} {n n2 : Nat} {sl sl2 : Array (Option Value)} {ns ms : List Int} {Q : Value → Shared → Prop} (ga : s.heap.get? a = some { cls := .type "tuple", dict := dd, data := .seq items n, slots := sl })
    (gb : s.heap.get? b = some { cls := .type "tuple", dict := dd2, data := .seq items2 n2, slots := sl2 }) (ia : IntsAre items.toList ns) (ib : IntsAre items2.toList ms) (iv : Looks (model prog w) s.heap (isInstance (.ref a) (.type "tuple")) true)
    (iu : ∀ M : Model, Looks M s.heap (isInstance (.ref b) (.type "tuple")) true) (h : Q (.bool (HT.lexLt ns ms)) s) : wpAny (model prog w) A (call (.builtin "tuple.__lt__") [.ref a, .ref b]) Q E s := by
  refine wpAny_call (codeAny_call_builtin PySem.F.slot_tuple_lt.plain PySem.F.entry_tuple_lt (@check_slot (model prog w) _ _ _ "tuple.__lt__" "tuple" "__lt__" (.ref a) [.ref b] [] _ (by decide +kernel) (by decide +kernel) iv (PySem.F.args_tuple_lt_2 _ _) ?_))
  refine wpAny_mono (NtL.nt_lt_ints a b (.type "tuple") (.type "tuple") items items2 n n2 dd dd2 sl sl2 ns ms ia ib prog w _ (wants Q E) s ⟨ga, gb, iu, h⟩) (fun fin s' q => ?_) fun _ _ z => z
  cases fin with
  | done f => exact q
  | again c => exact q
theorem isTup_looks {h : Heap} {v : Value} {ns : List Int} (x : IsTupI h v ns) : Looks M h (isInstance v (.type "tuple")) true := by
  obtain ⟨a, o, xs, n, rfl, ho, hc, hd, i⟩ := x
  intro A Q E s k q
  exact wpAny_isInstance (T := "tuple") (b := true) ⟨o, k _ _ ho, hc⟩ (by first | exact isSubtype_tuple | (unfold isSubtype; rfl) | rfl) q
theorem ltT {v u : Value} {ns ms : List Int} {Q : Bool → Shared → Prop} (hu : A.units < cLine) (hv : IsTupI s.heap v ns) (hw : IsTupI s.heap u ms) (h : Q (HT.lexLt ns ms) s) : wpAny (model prog w) A (keyLt' oneType' v u) Q E s := by
  have sp : Looks (model prog w) s.heap (specialOf v "__lt__") (some (.builtin "tuple.__lt__")) := (tup_looks hv).andThen (Looks.of_pure PySem.F.slot_tuple_lt.lookup)
  have iv : Looks (model prog w) s.heap (isInstance v (.type "tuple")) true := isTup_looks hv
  have iu : ∀ M : Model, Looks M s.heap (isInstance u (.type "tuple")) true := fun M => isTup_looks hw
  obtain ⟨a, o, items, n, rfl, ga, hc, hd, ia⟩ := hv
  obtain ⟨b, o2, items2, n2, rfl, gb, hc2, hd2, ib⟩ := hw
  obtain ⟨c1, d1, x1, s1⟩ := o
  obtain ⟨c2, d2, x2, s2⟩ := o2
  dsimp only at hc hd hc2 hd2
  subst hc hd hc2 hd2
  rw [keyLt'_oneType, oneLt'_eq]
  simp only [if_true]
  refine wpAny_bind (wpAny_cRoomFor hu ?_)
  refine wpAny_bind (NtL.csib (E := E) sp (PySem.F.slot_tuple_lt.bind _) (call_ltT ga gb ia ib iv iu ?_))
  exact wpAny_truthy_bool h
/-- the first item, as the heap has it -/
def fst0 (h : Heap) (v : Value) : Option Value := match v with
  | .ref a => match h.get? a with
    | some o => match o.data with
      | .seq xs _ => xs[0]?
      | _ => none
    | none => none
  | _ => none
theorem kind_empty {v0 : Value} {rest : List Value} {k : Value → List Int} {Q : SortKind → Shared → Prop} (h2 : 2 ≤ (v0 :: rest).length) (hp : ∀ v ∈ v0 :: rest, IsTupI s.heap v (k v)) (h0 : k v0 = []) (h : Q oneType' s) :
    wpAny M A (keyKind' (v0 :: rest).toArray) Q E s := by
  obtain ⟨v1, rest, rfl⟩ : ∃ v1 r, rest = v1 :: r := by
    cases rest with
    | nil => simp at h2
    | cons v r => exact ⟨v, r, rfl⟩
  rw [keyKind'_eq, List.mapM_toArray, map_eq_pure_bind]
  have f0 : fst0 s.heap v0 = none := by
    obtain ⟨a, o, xs, n, e, ho, hc, hd, i⟩ := hp v0 List.mem_cons_self
    rw [h0] at i
    subst e
    unfold fst0
    dsimp only
    rw [ho]
    dsimp only
    rw [hd]
    dsimp only
    have : xs.toList = [] := by
      generalize xs.toList = l at i
      cases i
      rfl
    have : xs.size = 0 := by rw [← Array.length_toList, this]; rfl
    rw [Array.getElem?_eq_none (by omega)]
  refine wpAny_bind (wpAny_bind (mapM_of (r := fst0 s.heap) _ (fun v hv Q' hq => ?_) (wpAny_pure ?_)))
  · rw [kas_first_eq]
    have t := tup_looks (M := M) (hp v hv)
    refine wpAny_bind (t.here ?_)
    rw [if_neg (by decide +kernel)]
    obtain ⟨a, o, xs, n, rfl, ho, hc, hd, i⟩ := hp v hv
    refine wpAny_bind (listItems_at ho hd ?_)
    refine wpAny_pure ?_
    unfold fst0 at hq
    dsimp only at hq
    rw [ho] at hq
    dsimp only at hq
    rw [hd] at hq
    exact hq
  · rw [if_neg (by simp [f0]), if_neg (by simp [f0])]
    rw [oneTypeOnly'_eq, List.mapM_toArray, map_eq_pure_bind]
    refine wpAny_bind (wpAny_bind (wpAny_bind (kas_mapM (r := Value.type "tuple") _ (fun v hv Q' hq => (tup_looks (M := M) (hp v hv)).here hq) (wpAny_pure ?_))))
    have hall : ((List.map (fun _ => Value.type "tuple") (v0 :: v1 :: rest)).toArray.all fun x => x == Value.type "tuple") = true := by
      simp only [List.all_toArray, List.all_map, List.all_eq_true]
      intro _ _
      first | rfl | decide | simp
    have h0' : (List.map (fun _ => Value.type "tuple") (v0 :: v1 :: rest)).toArray[0]? = some (Value.type "tuple") := by simp
    rw [h0']
    dsimp only
    rw [if_pos hall]
    exact wpAny_pure (wpAny_pure h)
theorem tup_cmpT {vs : List Value} {k : Value → List Int} (hu : A.units < cLine) (hp : ∀ v ∈ vs, IsTupI s.heap v (k v)) : Cmp prog w A s oneType' (fun p => p.1 ∈ vs) (lt2 fun v u => HT.lexLt (k v) (k u)) := by
  intro p q hm hm'
  exact ltT (Q := fun r s' => s' = s ∧ r = HT.lexLt (k p.1) (k q.1)) (E := fun _ _ => False) hu (hp p.1 hm) (hp q.1 hm') ⟨rfl, rfl⟩
theorem sorted_tups0 {l : Addr} {v0 : Value} {rest : List Value} {k : Value → List Int} {Q : Value → Shared → Prop} (hu : A.units + 64 < cLine) (hl : s.heap.IsList l (v0 :: rest).toArray) (hz : (v0 :: rest).length ≤ sizeLine) (hp : ∀ v ∈ v0 :: rest, IsTupI s.heap v (k v)) (h0 : k v0 = [])
    (h : ∀ (h' : Heap) (d : Addr) (out : List Value), Srtd (fun v u => HT.lexLt (k v) (k u)) out → Stb (fun v u => HT.lexLt (k v) (k u)) out (v0 :: rest) → (∀ b o, s.heap.get? b = some o → h'.get? b = some o) → s.heap.objs.size ≤ d → (∃ n, h'.get? d = some (seqObj "list" out.toArray n)) → Q (.ref d) { s with heap := h' }) :
    wpAny (model prog w) A (call (.builtin "sorted") [.ref l]) Q E s := by
  refine sorted_ord (NtL.swo_lexL k) hl hz (fun h2 h₁ a ha kk => ?_) fun out hs hb => ?_
  · intro h' keep
    have hp' : ∀ v ∈ v0 :: rest, IsTupI h' v (k v) := fun v hm => by
      refine (hp v hm).keeps fun b o e c => keep b o (fun z => ?_) (kk b o e).2
      subst z
      have e1 := (kk _ o e).2
      have e' : some o = some (seqObj "list" (v0 :: rest).toArray 0) := e1.symm.trans ha
      cases e'
      exact absurd (Value.type.inj c) (by decide)
    refine ⟨oneType', fun Q E hq => ?_, tup_cmpT (s := { s with heap := h' }) (Nat.lt_of_le_of_lt (Nat.le_trans ?_ (Nat.le_refl _)) hu) hp'⟩
    · exact kind_empty (s := { s with heap := h' }) h2 hp' h0 hq
    · first | (simp only [Around.in1]; omega) | (unfold Around.in1; dsimp only; omega) | (show (A.units + _) + _ ≤ A.units + 64; omega)
  · exact h _ _ out hs hb (fun b o e => sortedAll_old e) (Nat.le_succ _) (sortedAll_at s.heap (v0 :: rest) out.toArray)
end
end SrtM
namespace M
open PySem PySem.Spec PyProof.Rows L2
def rSortTE (K : PySem.W.Frag) : List V → Hp → VK → Prop := fun vs H Q => ∃ (a : Addr) (xs : List V) (nss : List (List Int)) (R : V → List Int → Prop), vs = [V.ref a] ∧ SqL K H a xs ∧ (∀ v ns, R v ns → TInt K H v ns) ∧ Paired R xs nss ∧ ((∀ ns ∈ nss, ns ≠ []) ∨ ∃ r, nss = [] :: r) ∧
  ∀ ys p, Paired R ys (sortL nss) → H p = none → Q (.ref p) (upd H p (.lst ys))
theorem cr_sortTE {X : Cx} (hu : X.A.units + 64 < cLine) : CallR X (.builtin "sorted") (rSortTE X.K) := by
  intro pins s σ H vs us Q I r h
  obtain ⟨a, xs, nss, R, rfl, hs, hR, hp, hne, q⟩ := h
  rcases hne with hne | ⟨rest, hne⟩
  · exact cr_sortTL pins s σ H _ us Q I r ⟨a, xs, nss, R, rfl, hs, hR, hp, hne, q⟩
  subst hne
  obtain ⟨its, rv, hl, hz⟩ := I.list hs
  obtain ⟨u, rfl, ru⟩ := vals1 r
  obtain rfl : u = Value.ref a := ru
  let k : V → List Int := fun v => @dite _ (∃ ns, TInt X.K H v ns) (Classical.propDecidable _) (fun h => Classical.choose h) (fun _ => [])
  have uk : ∀ v ns, R v ns → k v = ns := fun v ns h => by
    have ex : ∃ ns, TInt X.K H v ns := ⟨ns, hR v ns h⟩
    have e : k v = Classical.choose ex := dif_pos ex
    rw [e]
    obtain ⟨t, e1, q1⟩ := Classical.choose_spec ex
    obtain ⟨t', e2, q2⟩ := hR v ns h
    rw [e1] at e2
    cases e2
    exact map_int_inj (I.tuple_inj q1 q2)
  have hk : ∀ v ∈ xs, R v (k v) := fun v hv => by
    obtain ⟨ns, hn, r⟩ := paired_mem hp v hv
    rw [uk v ns r]
    exact r
  obtain ⟨e1, e2⟩ := refs_back rv fun x m => by
    obtain ⟨t, e, _⟩ := hR _ _ (hk x m)
    exact ⟨t, e⟩
  obtain ⟨i0, itr, ei⟩ : ∃ i0 itr, its = i0 :: itr := by
    cases its with
    | nil =>
      cases rv
      cases hp
    | cons i0 itr => exact ⟨i0, itr, rfl⟩
  have k0 : k (backV i0) = [] := by
    subst ei
    cases hp with
    | @cons v0 _ vr _ h1 h2 =>
      have : v0 = backV i0 := by
        rw [List.map_cons] at e1
        exact (List.cons.inj e1).1
      rw [← this]
      exact uk _ _ h1
  subst ei
  refine SrtM.sorted_tups0 (k := fun u => k (backV u)) hu hl.isList (by rw [← rv.length]; exact hz) (fun v hv => ?_) k0 fun h' d out h1 h2 kp hd hn => ?_
  · obtain ⟨t, rfl⟩ := e2 v hv
    have hm : V.ref t ∈ xs := by rw [e1]; exact List.mem_map.mpr ⟨_, hv, rfl⟩
    obtain ⟨t', e, ht⟩ := hR _ _ (hk _ hm)
    cases e
    obtain ⟨its', r1, ⟨o, ho, hc, n, hd⟩, _⟩ := I.tuple ht
    exact ⟨t, o, _, n, rfl, ho, hc, hd, intsAre_of r1⟩
  · have h3 : ∀ u ∈ out, ∃ a, u = Value.ref a := fun u hu => e2 u (h2.perm.mem_iff.mp hu)
    obtain ⟨n, hn⟩ := hn
    have hb : (out.map backV).Perm xs := by
      rw [e1]
      exact h2.perm.map backV
    have hs : ((out.map backV).map k).Pairwise fun a b => HT.lexLt b a = false := by
      rw [List.map_map, List.pairwise_map]
      exact h1
    have e : (out.map backV).map k = sortL ([] :: rest) := sortL_uniq (by rw [← paired_map_eq uk hp]; exact hb.map k) hs
    refine ⟨.ref d, upd H d (.lst (out.map backV)), I.laid (t' := s.toks) kp hd ⟨?_, out, n, vals_back h3, hn⟩, rfl, q _ d ?_ (I.hok.fresh hd)⟩
    · rw [hb.length_eq]
      exact hz
    · rw [← e]
      exact paired_self fun v hv => hk v (hb.mem_iff.mp hv)
end M
namespace M
open PySem PySem.Spec PyProof.Rows L2
noncomputable def lSortTE (xs : List (TupL Int)) : Res (List (TupL Int)) := clo (if (xs.all fun x => !x.l.isEmpty) = true ∨ (xs.head?.map TupL.l) = some [] then .ok ((sortL (xs.map TupL.l)).map TupL.mk) else .bad)
section
variable {K : PySem.W.Frag} {I H : Hp} {σ ρ : List (Option V)} {Γ Γ' Θ : List Cell} {i j : Nat} {v : V} {Q : VK} {ω : Type} {P : ω → Prop} {X : Exn → Prop}
theorem sortTE_of {a : Addr} {vs : List V} {xs : List (TupL Int)} {k : List (TupL Int) → Res ω} (e : I a = some (.lst vs) ∨ H a = some (.lst vs)) (s : Same I H) (p : Paired (fun v x => Rep.rp K I v x) vs xs) (h : wp ((lSortTE xs).bind k) P X)
    (next : ∀ xs', wp (k xs') P X → ∀ ys p, Paired (fun v x => Rep.rp K I v x) ys xs' → H p = none → Q (.ref p) (upd H p (.lst ys))) : CbG (rSortTE K) [.ref a] H Q := by
  unfold lSortTE at h
  rw [clo_eq] at h
  by_cases hne : (xs.all fun x => !x.l.isEmpty) = true ∨ (xs.head?.map TupL.l) = some []
  · rw [if_pos hne] at h
    refine ⟨a, vs, xs.map TupL.l, fun v ns => Rep.rp K I v (TupL.mk ns), rfl, ?_, ?_, ?_, ?_, fun ys p hp np => ?_⟩
    · rcases e with e | e
      · exact SqL.of (s _ _ e)
      · exact SqL.of e
    · rintro v ns ⟨t, ws, e1, e2, e3⟩
      refine ⟨t, e1, ?_⟩
      rw [← ints_rp e3]
      exact same_seqT s e2
    · exact paired_mapR (f := TupL.l) (fun _ _ h => h) p
    · rcases hne with hne | hne
      · refine .inl fun ns hn => ?_
        obtain ⟨x, hx, rfl⟩ := List.mem_map.mp hn
        have := List.all_eq_true.mp hne x hx
        intro z
        rw [z] at this
        cases this
      · cases xs with
        | nil => cases hne
        | cons x xs =>
          have e0 : x.l = [] := Option.some.inj hne
          exact .inr ⟨xs.map TupL.l, by rw [List.map_cons, e0]⟩
    · exact next _ h ys p (paired_mapR (f := TupL.mk) (fun _ _ h => h) hp) np
  · rw [if_neg hne] at h
    exact h.elim
theorem st_sortTEO {xs : List (TupL Int)} {k : List (TupL Int) → Res ω} (E : Env K I H σ Γ (some v :: ρ) (.im xs :: Θ)) (h : wp ((lSortTE xs).bind k) P X) (next : ∀ xs' H' v, Env K I H' σ Γ (some v :: ρ) (.own xs' :: Θ) → wp (k xs') P X → Q v H') : CbG (rSortTE K) [v] H Q := by
  obtain ⟨a, vs, rfl, ha, p⟩ := E.topR
  exact sortTE_of (.inl ha) E.same p h fun xs' h ys q hp np => st_newO (Env.pop E) hp (fun H' v E => next xs' H' v E h) q np
theorem st_sortTEI {xs : List (TupL Int)} {k : List (TupL Int) → Res ω} (E : Env K I H σ Γ (some v :: ρ) (.im xs :: Θ)) (h : wp ((lSortTE xs).bind k) P X) (next : ∀ xs' I' H' v, Env K I' H' σ Γ (some v :: ρ) (.im xs' :: Θ) → wp (k xs') P X → Q v H') : CbG (rSortTE K) [v] H Q := by
  obtain ⟨a, vs, rfl, ha, p⟩ := E.topR
  exact sortTE_of (.inl ha) E.same p h fun xs' h ys q hp np => st_newI (Env.pop E) hp (fun I' H' v E => next xs' I' H' v E h) q np
end
end M
/-! sorted(..) of tuples of ints, some of them empty -/
namespace SrtM
open PySem PySem.W PySem.Calls PyProof.Rows SrtO
section
variable {M : Model} {prog : Program} {w : World} {A : Around} {E : Value → Shared → Prop} {s : Shared} {K : Frag}
theorem ltG {v u : Value} {ns ms : List Int} {Q : Bool → Shared → Prop} (hu : A.units < cLine) (hv : IsTupI s.heap v ns) (hw : IsTupI s.heap u ms) (h : Q (HT.lexLt ns ms) s) : wpAny (model prog w) A (keyLt' general' v u) Q E s := by
  have iu : ∀ M : Model, Looks M s.heap (isInstance u (.type "tuple")) true := fun M => isTup_looks hw
  obtain ⟨a, o, items, n, rfl, ga, hc, hd, ia⟩ := hv
  obtain ⟨b, o2, items2, n2, rfl, gb, hc2, hd2, ib⟩ := hw
  obtain ⟨c1, d1, x1, s1⟩ := o
  obtain ⟨c2, d2, x2, s2⟩ := o2
  dsimp only at hc hd hc2 hd2
  subst hc hd hc2 hd2
  show wpAny (model prog w) A (oneLt' false (.ref a) (.ref b)) Q E s
  rw [oneLt'_eq]
  simp only [Bool.false_eq_true, if_false]
  refine wpAny_bind ?_
  refine richCompare_meets_room (op := .Lt) ⟨_, ga, rfl⟩ ⟨_, gb, rfl⟩ F.slot_tuple_lt F.entry_tuple_lt (F.args_tuple_lt_2 _ _) (NtL.nt_lt_ints a b (.type "tuple") (.type "tuple") items items2 n n2 d1 d2 s1 s2 ns ms ia ib)
    ⟨ga, gb, iu, show Value.bool (HT.lexLt ns ms) ≠ Value.notImplemented ∧ _ from ⟨(fun x => nomatch x), wpAny_truthy_bool h⟩⟩ hu
/-- the first has an item, another has none -/
theorem kind_mixed {v0 : Value} {rest : List Value} {k : Value → List Int} {Q : SortKind → Shared → Prop} (hp : ∀ v ∈ v0 :: rest, IsTupI s.heap v (k v)) (h0 : k v0 ≠ []) (h1 : ∃ v ∈ rest, k v = []) (h : Q general' s) :
    wpAny M A (keyKind' (v0 :: rest).toArray) Q E s := by
  rw [keyKind'_eq, List.mapM_toArray, map_eq_pure_bind]
  have fs : ∀ v ∈ v0 :: rest, (k v = [] → fst0 s.heap v = none) ∧ (k v ≠ [] → (fst0 s.heap v).isSome = true) := by
    intro v hv
    obtain ⟨a, o, xs, n, e, ho, hc, hd, i⟩ := hp v hv
    subst e
    unfold fst0
    dsimp only
    rw [ho]
    dsimp only
    rw [hd]
    dsimp only
    have lz : xs.size = (k (.ref a)).length := by rw [← i.length, Array.length_toList]
    refine ⟨fun z => ?_, fun z => ?_⟩
    · rw [Array.getElem?_eq_none (by rw [lz, z]; exact Nat.le_refl _)]
    · have : 0 < xs.size := by rw [lz]; exact List.length_pos_iff.mpr z
      rw [Array.getElem?_eq_getElem this]
      rfl
  have f0 := (fs v0 List.mem_cons_self).2 h0
  obtain ⟨v1, hm, hv1⟩ := h1
  have f1 := (fs v1 (List.mem_cons_of_mem _ hm)).1 hv1
  refine wpAny_bind (wpAny_bind (mapM_of (r := fst0 s.heap) _ (fun v hv Q' hq => ?_) (wpAny_pure ?_)))
  · rw [kas_first_eq]
    have t := tup_looks (M := M) (hp v hv)
    refine wpAny_bind (t.here ?_)
    rw [if_neg (by decide +kernel)]
    obtain ⟨a, o, xs, n, rfl, ho, hc, hd, i⟩ := hp v hv
    refine wpAny_bind (listItems_at ho hd ?_)
    refine wpAny_pure ?_
    unfold fst0 at hq
    dsimp only at hq
    rw [ho] at hq
    dsimp only at hq
    rw [hd] at hq
    exact hq
  · rw [if_neg (by
      intro z
      simp only [List.all_toArray, List.all_map, List.all_eq_true] at z
      have := z v1 (List.mem_cons_of_mem _ hm)
      simp only [Function.comp] at this
      rw [f1] at this
      cases this)]
    rw [if_pos (by simp only [List.map_cons, List.getElem?_toArray, List.getElem?_cons_zero, Option.bind_some, id]; exact f0)]
    exact wpAny_pure h
theorem tup_cmpG {vs : List Value} {k : Value → List Int} (hu : A.units < cLine) (hp : ∀ v ∈ vs, IsTupI s.heap v (k v)) : Cmp prog w A s general' (fun p => p.1 ∈ vs) (lt2 fun v u => HT.lexLt (k v) (k u)) := by
  intro p q hm hm'
  exact ltG (Q := fun r s' => s' = s ∧ r = HT.lexLt (k p.1) (k q.1)) (E := fun _ _ => False) hu (hp p.1 hm) (hp q.1 hm') ⟨rfl, rfl⟩
theorem sorted_tupsM {l : Addr} {v0 : Value} {rest : List Value} {k : Value → List Int} {Q : Value → Shared → Prop} (hu : A.units + 64 < cLine) (hl : s.heap.IsList l (v0 :: rest).toArray) (hz : (v0 :: rest).length ≤ sizeLine) (hp : ∀ v ∈ v0 :: rest, IsTupI s.heap v (k v)) (h0 : k v0 ≠ []) (h1 : ∃ v ∈ rest, k v = [])
    (h : ∀ (h' : Heap) (d : Addr) (out : List Value), Srtd (fun v u => HT.lexLt (k v) (k u)) out → Stb (fun v u => HT.lexLt (k v) (k u)) out (v0 :: rest) → (∀ b o, s.heap.get? b = some o → h'.get? b = some o) → s.heap.objs.size ≤ d → (∃ n, h'.get? d = some (seqObj "list" out.toArray n)) → Q (.ref d) { s with heap := h' }) :
    wpAny (model prog w) A (call (.builtin "sorted") [.ref l]) Q E s := by
  refine sorted_ord (NtL.swo_lexL k) hl hz (fun h2 h₁ a ha kk => ?_) fun out hs hb => ?_
  · intro h' keep
    have hp' : ∀ v ∈ v0 :: rest, IsTupI h' v (k v) := fun v hm => by
      refine (hp v hm).keeps fun b o e c => keep b o (fun z => ?_) (kk b o e).2
      subst z
      have e1 := (kk _ o e).2
      have e' : some o = some (seqObj "list" (v0 :: rest).toArray 0) := e1.symm.trans ha
      cases e'
      exact absurd (Value.type.inj c) (by decide)
    refine ⟨general', fun Q E hq => ?_, tup_cmpG (s := { s with heap := h' }) (Nat.lt_of_le_of_lt (Nat.le_trans ?_ (Nat.le_refl _)) hu) hp'⟩
    · exact kind_mixed (s := { s with heap := h' }) hp' h0 h1 hq
    · first | (simp only [Around.in1]; omega) | (unfold Around.in1; dsimp only; omega) | (show (A.units + _) + _ ≤ A.units + 64; omega)
  · exact h _ _ out hs hb (fun b o e => sortedAll_old e) (Nat.le_succ _) (sortedAll_at s.heap (v0 :: rest) out.toArray)
end
end SrtM
namespace M
open PySem PySem.Spec PyProof.Rows L2
def rSortTM (K : PySem.W.Frag) : List V → Hp → VK → Prop := fun vs H Q => ∃ (a : Addr) (xs : List V) (nss : List (List Int)) (R : V → List Int → Prop), vs = [V.ref a] ∧ SqL K H a xs ∧ (∀ v ns, R v ns → TInt K H v ns) ∧ Paired R xs nss ∧
  ∀ ys p, Paired R ys (sortL nss) → H p = none → Q (.ref p) (upd H p (.lst ys))
theorem cr_sortTM {X : Cx} (hu : X.A.units + 64 < cLine) : CallR X (.builtin "sorted") (rSortTM X.K) := by
  intro pins s σ H vs us Q I r h
  obtain ⟨a, xs, nss, R, rfl, hs, hR, hp, q⟩ := h
  by_cases hne : (∀ ns ∈ nss, ns ≠ []) ∨ ∃ r, nss = [] :: r
  · exact cr_sortTE hu pins s σ H _ us Q I r ⟨a, xs, nss, R, rfl, hs, hR, hp, hne, q⟩
  obtain ⟨n0, rest, hn0, hex⟩ : ∃ n0 rest, nss = n0 :: rest ∧ n0 ≠ [] ∧ [] ∈ rest := by
    cases nss with
    | nil => exact absurd (.inl fun ns h => nomatch h) hne
    | cons n0 rest =>
      refine ⟨n0, rest, rfl, fun z => hne (.inr ⟨rest, by rw [z]⟩), ?_⟩
      refine Classical.byContradiction fun z => hne (.inl fun ns hn z2 => ?_)
      subst z2
      rcases List.mem_cons.mp hn with e | e
      · exact hne (.inr ⟨rest, by rw [← e]⟩)
      · exact z e
  subst hn0
  obtain ⟨its, rv, hl, hz⟩ := I.list hs
  obtain ⟨u, rfl, ru⟩ := vals1 r
  obtain rfl : u = Value.ref a := ru
  let k : V → List Int := fun v => @dite _ (∃ ns, TInt X.K H v ns) (Classical.propDecidable _) (fun h => Classical.choose h) (fun _ => [])
  have uk : ∀ v ns, R v ns → k v = ns := fun v ns h => by
    have ex : ∃ ns, TInt X.K H v ns := ⟨ns, hR v ns h⟩
    have e : k v = Classical.choose ex := dif_pos ex
    rw [e]
    obtain ⟨t, e1, q1⟩ := Classical.choose_spec ex
    obtain ⟨t', e2, q2⟩ := hR v ns h
    rw [e1] at e2
    cases e2
    exact map_int_inj (I.tuple_inj q1 q2)
  have hk : ∀ v ∈ xs, R v (k v) := fun v hv => by
    obtain ⟨ns, hn, r⟩ := paired_mem hp v hv
    rw [uk v ns r]
    exact r
  have km : xs.map k = n0 :: rest := paired_map_eq uk hp
  obtain ⟨e1, e2⟩ := refs_back rv fun x m => by
    obtain ⟨t, e, _⟩ := hR _ _ (hk x m)
    exact ⟨t, e⟩
  have km2 : its.map (fun u => k (backV u)) = n0 :: rest := by
    rw [← km, e1, List.map_map]
    rfl
  obtain ⟨i0, itr, ei⟩ : ∃ i0 itr, its = i0 :: itr := by
    cases its with
    | nil => cases km2
    | cons i0 itr => exact ⟨i0, itr, rfl⟩
  subst ei
  rw [List.map_cons] at km2
  obtain ⟨k0, kr⟩ := List.cons.inj km2
  refine SrtM.sorted_tupsM (k := fun u => k (backV u)) hu hl.isList (by rw [← rv.length]; exact hz) (fun v hv => ?_) (by rw [k0]; exact hex.1) ?_ fun h' d out h1 h2 kp hd hn => ?_
  · obtain ⟨t, rfl⟩ := e2 v hv
    have hm : V.ref t ∈ xs := by rw [e1]; exact List.mem_map.mpr ⟨_, hv, rfl⟩
    obtain ⟨t', e, ht⟩ := hR _ _ (hk _ hm)
    cases e
    obtain ⟨its', r1, ⟨o, ho, hc, n, hd⟩, _⟩ := I.tuple ht
    exact ⟨t, o, _, n, rfl, ho, hc, hd, intsAre_of r1⟩
  · rw [← kr] at hex
    obtain ⟨v, hv, ev⟩ := List.mem_map.mp hex.2
    exact ⟨v, hv, ev⟩
  · have h3 : ∀ u ∈ out, ∃ a, u = Value.ref a := fun u hu => e2 u (h2.perm.mem_iff.mp hu)
    obtain ⟨n, hn⟩ := hn
    have hb : (out.map backV).Perm xs := by
      rw [e1]
      exact h2.perm.map backV
    have hs : ((out.map backV).map k).Pairwise fun a b => HT.lexLt b a = false := by
      rw [List.map_map, List.pairwise_map]
      exact h1
    have e : (out.map backV).map k = sortL (n0 :: rest) := sortL_uniq (by rw [← km]; exact hb.map k) hs
    refine ⟨.ref d, upd H d (.lst (out.map backV)), I.laid (t' := s.toks) kp hd ⟨?_, out, n, vals_back h3, hn⟩, rfl, q _ d ?_ (I.hok.fresh hd)⟩
    · rw [hb.length_eq]
      exact hz
    · rw [← e]
      exact paired_self fun v hv => hk v (hb.mem_iff.mp hv)
noncomputable def lSortTM (xs : List (TupL Int)) : Res (List (TupL Int)) := clo (.ok ((sortL (xs.map TupL.l)).map TupL.mk))
section
variable {K : PySem.W.Frag} {I H : Hp} {σ ρ : List (Option V)} {Γ Γ' Θ : List Cell} {i j : Nat} {v : V} {Q : VK} {ω : Type} {P : ω → Prop} {X : Exn → Prop}
theorem sortTM_of {a : Addr} {vs : List V} {xs : List (TupL Int)} {k : List (TupL Int) → Res ω} (e : I a = some (.lst vs) ∨ H a = some (.lst vs)) (s : Same I H) (p : Paired (fun v x => Rep.rp K I v x) vs xs) (h : wp ((lSortTM xs).bind k) P X)
    (next : ∀ xs', wp (k xs') P X → ∀ ys p, Paired (fun v x => Rep.rp K I v x) ys xs' → H p = none → Q (.ref p) (upd H p (.lst ys))) : CbG (rSortTM K) [.ref a] H Q := by
  unfold lSortTM at h
  rw [clo_eq] at h
  refine ⟨a, vs, xs.map TupL.l, fun v ns => Rep.rp K I v (TupL.mk ns), rfl, ?_, ?_, ?_, fun ys p hp np => ?_⟩
  · rcases e with e | e
    · exact SqL.of (s _ _ e)
    · exact SqL.of e
  · rintro v ns ⟨t, ws, e1, e2, e3⟩
    refine ⟨t, e1, ?_⟩
    rw [← ints_rp e3]
    exact same_seqT s e2
  · exact paired_mapR (f := TupL.l) (fun _ _ h => h) p
  · exact next _ h ys p (paired_mapR (f := TupL.mk) (fun _ _ h => h) hp) np
theorem st_sortTMO {xs : List (TupL Int)} {k : List (TupL Int) → Res ω} (E : Env K I H σ Γ (some v :: ρ) (.im xs :: Θ)) (h : wp ((lSortTM xs).bind k) P X) (next : ∀ xs' H' v, Env K I H' σ Γ (some v :: ρ) (.own xs' :: Θ) → wp (k xs') P X → Q v H') : CbG (rSortTM K) [v] H Q := by
  obtain ⟨a, vs, rfl, ha, p⟩ := E.topR
  exact sortTM_of (.inl ha) E.same p h fun xs' h ys q hp np => st_newO (Env.pop E) hp (fun H' v E => next xs' H' v E h) q np
theorem st_sortTMI {xs : List (TupL Int)} {k : List (TupL Int) → Res ω} (E : Env K I H σ Γ (some v :: ρ) (.im xs :: Θ)) (h : wp ((lSortTM xs).bind k) P X) (next : ∀ xs' I' H' v, Env K I' H' σ Γ (some v :: ρ) (.im xs' :: Θ) → wp (k xs') P X → Q v H') : CbG (rSortTM K) [v] H Q := by
  obtain ⟨a, vs, rfl, ha, p⟩ := E.topR
  exact sortTM_of (.inl ha) E.same p h fun xs' h ys q hp np => st_newI (Env.pop E) hp (fun I' H' v E => next xs' I' H' v E h) q np
end
end M
/-! generators that raise, in a try; x in a list of data -/
namespace M
open PySem PySem.Spec PyProof PyProof.Rows L2
theorem trZ {h B : Heap} {a : Addr} {Z Z' : Obj → Prop} {fl : Value} (z : ∀ o, Z o → Z' o) (x : HandSPX.TracedZ h B a Z fl) : HandSPX.TracedZ h B a Z' fl := by
  obtain ⟨oe, vs, T, oT, ts, e1, e2, r⟩ := x
  exact ⟨oe, vs, T, oT, ts, e1, z _ e2, r⟩
theorem skyZ {B : Heap} {l : List PySem.Env} {a L : Addr} {Z Z' : Obj → Prop} {h : Heap} (z : ∀ o, Z o → Z' o) (x : Sky B l a Z L h) : Sky B l a Z' L h := by
  rcases x with ⟨x1, x2, x3, oe, vs, x4, x5, x6, x7⟩ | fl | hd
  · exact .inl ⟨x1, x2, x3, oe, vs, x4, z _ x5, x6, x7⟩
  · exact .inr (.inl (⟨fl.1, fl.2.1, fl.2.2.1, trZ z fl.2.2.2⟩))
  · exact .inr (.inr ⟨hd.1, hd.2.1, hd.2.2.1, trZ z hd.2.2.2⟩)
/-- who takes exceptions, takes those without a context -/
theorem takesZN {X : Cx} {W : WX} (tk : L2.Takes X W) : L2N.Takes X W := fun u s' ⟨a, B, sI, pins, σ, H, cls, d, e, I, nb, up, sky, na, os, ag, w⟩ =>
  tk u s' ⟨a, B, sI, pins, σ, H, cls, d, e, I, nb, up, skyZ (fun _ h => h.zc) sky, na, os, ag, w⟩
theorem takesZ0 {X : Cx} : L2.Takes X (fun _ _ _ _ => False) := fun _ _ ⟨_, _, _, _, _, _, _, _, _, _, _, _, _, _, _, _, w⟩ => w.elim
theorem ps_tryGZ {X : Cx} {x n : Str} {c : Value} {i : Nat} {body suite : List Stmt} {b₀ : Stmt} {np pos pos' : Pos} {tb : WX → TS} {ts : Addr → Value → Option Addr → TS}
    (hs : X.stack = X.env :: X.outer) (hf : X.env.frame = some X.env.locals) (hN : X.N.Nodup) (hi : X.N[i]? = some n) (hln : X.env.kindOf n = some .local) (hc : Names X x c)
    (hb : ∀ (W : WX) (pn : List (Addr × Obj)) (xe : Value → Shared → Prop), L2.Takes (X.tr pn xe) W → L2N.Takes (X.tr pn xe) W → PassesOwn (model X.prog X.w) X.A X.env xe → PSs (X.tr pn xe) body (tb W))
    (hsu : ∀ (a : Addr) (oe : Obj) (cls : Value) (d : Option Addr) (pn : List (Addr × Obj)), Zc cls d oe → (∃ vs, oe.data = .fields vs) → PSs (X.suite a ((a, oe) :: pn)) (b₀ :: suite) (ts a cls d)) :
    PS X (.Try body [.ExceptHandler (some (.Name x np)) (some n) (b₀ :: suite) pos'] [] [] pos) (tTryG tb X.K c i ts) := L2.ps_try_as hs hf hN hi hln hc takesZ0 (fun W pn xe tk hp => hb W pn xe tk (takesZN tk) hp) hsu
/-- a generator's promise by its mirror, exceptions told too -/
def SpGX (K : PySem.W.Frag) (mg : Str → Option Value) {A β : Type} [Rep β] (n : Nat) (cells : A → List Cell) (m : A → Res (List β)) : SpG := fun vs H cont E =>
  vs.length = n ∧ ∃ (a : A) (I : Hp) (ρ : List (Option V)) (Θ : List Cell), Env K I H (vs.map some) (cells a) ρ Θ ∧
    wp (m a) (fun b => ∀ I' H' ws, Env K I' H' [] [] ρ Θ → Paired (fun v x => Rep.rp K I' v x) ws b → cont ws H')
      (fun e => ∀ I' H' cls d, mg e.cls = some cls → Env K I' H' [] [] (some d :: ρ) (.im (XD.mk e.fs) :: Θ) → E cls (dOf d) H')
/-- outside of the classes kn nothing may be raised -/
def nsX {α : Type} (kn : Exn → Bool) (m : Res α) : Res α := match m with | .exc e => if kn e = true then .exc e else .bad | .ok a => .ok a | .bad => .bad
theorem wp_nsX {α : Type} {kn : Exn → Bool} {m : Res α} {P : α → Prop} {X : Exn → Prop} (h : wp (nsX kn m) P X) : wp m P (fun e => kn e = true ∧ X e) := by
  cases m with
  | ok a => exact h
  | bad => exact h
  | exc e =>
    unfold nsX at h
    dsimp only at h
    by_cases z : kn e = true
    · rw [if_pos z] at h; exact ⟨z, h⟩
    · rw [if_neg z] at h; exact h.elim
def WS (K : PySem.W.Frag) (W : WX) (σ : L2.St) : XK := fun cls d H => W cls d σ H ∧ PySem.W.subIn K cls (.type "StopIteration") = some false
/-- list(g(..)) where exceptions may come -/
def tListGW (sp : SpG) (W : WX) (K : PySem.W.Frag) (t : TA) : TE := fun σ H Q => tListG (tCallG sp [] (WS K W σ) t) σ H Q
theorem pe_listGW {X : Cx} {K : PySem.W.Frag} (hK : X.K = K) {k : Nat} {W : WX} {sp : SpG} {t : TA} {e : Expr} {nm : Str} {p pos : Pos} (h : ∀ E, PGen X k e (tCallG sp [] E t) E) (tk : L2.Takes X W) (hr : Room (k + 3) X.A) (hg : Gl X nm) (hmg : X.mg nm = none) (hv : bootBuiltins nm = some (.type "list")) (hnm : nm ≠ "__name__" := by decide) (hdb : (nm == ("__debug__" : Str)) = false := by decide)
    (he : starEach [e] X.env = (false, eval e X.env) :: starEach [] X.env := by rfl) : PE X (.Call (.Name nm p) [e] [] pos) (tListGW sp W K t) := by
  subst hK
  refine ⟨fun pins s σ H Q I hq => ?_⟩
  refine wpAny_Call_Name_kw (ld_blt I hg hmg hv ?_ hnm hdb)
  refine PyProof.Rows.callWith_type1 ?_ he rfl
  rw [he]
  show wpAny _ _ (spliced ((false, eval e X.env) :: backTo pos (starEach [] X.env))) _ _ s
  refine PySem.Calls.spliced_cons (thn ((h (WS X.K W σ)).run pins s σ H _ I hq) fun u s1 ⟨H1, sc, ex, I1, hex, hG⟩ => ?_)
  refine PySem.Calls.spliced_nil ?_
  have hsz : sc.heap.objs.size ≤ s1.heap.objs.size := by
    obtain ⟨a, g, c, _, h1, h2, _⟩ := hG
    exact Nat.le_trans h1 (Nat.le_of_lt h2)
  refine call_list_new hr I1.ok.frames hG (fun S s' acc c H' ys q0 q1 q2 hl q3 q4 q5 q6 q7 q8 => ?_) fun e s' g hc => ?_
  · exact ⟨.ref S, upd H' S (.lst ys), I1.drained (Nat.le_trans hsz q0) hl q1 q2 hex q3 q4 q5 q6 q7, rfl, q8 S q7⟩
  · have kin : X.K.In s'.heap := by
      obtain ⟨a, B, H', cls, d, _, fl, _, ub, _⟩ := id hc
      refine I1.ok.mod.kin.keeps fun b o eb => fl.1 b o (ub.keep b o (I1.bs b o eb).1 (I1.bs b o eb).2 fun hm => ?_)
      rcases List.mem_cons.mp (I1.stkSub b hm) with z | z
      · have h1 := Heap.lt_size eb
        have h2 := Nat.le_trans I1.ok.bsz I1.ok.above
        rw [z] at h1
        exact absurd (Nat.lt_of_lt_of_le h1 h2) (Nat.lt_irrefl _)
      · exact I1.ok.nofr eb z
    refine ⟨notStop_of (E := WS X.K W σ) (fun _ _ _ z => z.2) kin hc, tk e _ (L2.XE.of_call (E := WS X.K W σ) I1 (fun _ _ _ z => z.1) ?_)⟩
    · obtain ⟨a, B, H', cls, d, z1, fl, z2, ub, z3, z4, z5, z6⟩ := hc
      exact ⟨a, B, H', cls, d, z1, fl, z2, ub, z3, z4, allBare_setGen z5 rfl, z6⟩
def LGW (sp : SpG) (W : WX) (K : PySem.W.Frag) (vs : List V) (σ : L2.St) (H : Hp) (Q : VK) : Prop := sp (vs ++ []) H (fun out H2 => ∀ p, H2 p = none → Q (.ref p) (upd H2 p (.lst out))) (WS K W σ)
/-- the arguments are there; the slots are still σ -/
theorem uListGW {sp : SpG} {W : WX} {K : PySem.W.Frag} {t : TA} {σ : L2.St} {H : Hp} {Q : VK} (h : t σ H fun vs H1 => LGW sp W K vs σ H1 Q) : tListGW sp W K t σ H Q := h
section
variable {K : PySem.W.Frag} {mg : Str → Option Value} {I H : Hp} {σ ρ : List (Option V)} {Γ Θ : List Cell} {Q : VK} {ω : Type} {P : ω → Prop} {X : Exn → Prop} {W : WX}
theorem st_listGX {A β : Type} [Rep β] {n : Nat} {cells : A → List Cell} {m : A → Res (List β)} {vs : List V} {E0 : XK} (a : A) {k : List β → Res ω} (E : Env K I H σ Γ ((vs.map some).reverse ++ ρ) ((cells a).reverse ++ Θ)) (hn : vs.length = n) (hc : (cells a).length = n)
    (h : wp ((noX (m a)).bind k) P X) (next : ∀ b I' H' v, Env K I' H' σ Γ (some v :: ρ) (.im b :: Θ) → wp (k b) P X → Q v H') : LGG (SpGX K mg n cells m) E0 vs H Q := by
  unfold LGG
  rw [List.append_nil]
  refine ⟨hn, a, I, σ ++ ρ, Γ ++ Θ, E.enter (by rw [List.length_map, hn, hc]), ?_⟩
  refine wp_mono (wp_noX (Y := fun _ => False) (wp_bind.mp h)) (fun b q I' H' ws E' pr => ?_) fun _ z => z.elim
  exact st_newI (E'.leaveG E.1) pr fun I' H' v E2 => next b I' H' v E2 q
theorem st_listGW {A β : Type} [Rep β] {n : Nat} {cells : A → List Cell} {m : A → Res (List β)} {vs : List V} {kn : Exn → Bool} (a : A) {k : List β → Res ω} (E : Env K I H σ Γ ((vs.map some).reverse ++ ρ) ((cells a).reverse ++ Θ)) (hn : vs.length = n) (hc : (cells a).length = n)
    (h : wp ((nsX kn (m a)).bind k) P X) (hns : ∀ e, kn e = true → ∀ cls, mg e.cls = some cls → PySem.W.subIn K cls (.type "StopIteration") = some false) (hX : ∀ e, X e → XWish K mg W σ Γ ρ Θ e)
    (next : ∀ b I' H' v, Env K I' H' σ Γ (some v :: ρ) (.im b :: Θ) → wp (k b) P X → Q v H') : LGW (SpGX K mg n cells m) W K vs σ H Q := by
  unfold LGW
  rw [List.append_nil]
  refine ⟨hn, a, I, σ ++ ρ, Γ ++ Θ, E.enter (by rw [List.length_map, hn, hc]), ?_⟩
  refine wp_mono (wp_nsX (wp_bind.mp h)) (fun b q I' H' ws E' pr => ?_) fun e z I' H' cls d hm E' => ⟨hX e z.2 I' H' cls d hm (E'.leave E.1), hns e z.1 cls hm⟩
  exact st_newI (E'.leaveG E.1) pr fun I' H' v E2 => next b I' H' v E2 q
theorem units65 {k : Nat} {A : Around} (r : Room k A) : A.units + 65 < cLine := by have := r.un; omega
/-! x in a list of data -/
variable {α : Type} {v1 v2 : V}
def inD [Rep α] [DecidableEq α] [Dat α] (x : α) (y : List α) : Res Bool := if (PyData.canLay0 (Dat.toD x) && PyData.canLay0 (Dat.toD y)) = true then .ok (decide (x ∈ y)) else .bad
def niD [Rep α] [DecidableEq α] [Dat α] (x : α) (y : List α) : Res Bool := if (PyData.canLay0 (Dat.toD x) && PyData.canLay0 (Dat.toD y)) = true then .ok (!decide (x ∈ y)) else .bad
theorem any_inD [Rep α] [DecidableEq α] [Dat α] (x : α) : ∀ y : List α, ((y.map Dat.toD).any fun z => PyData.eqv z (Dat.toD x)) = decide (x ∈ y)
  | [] => by simp
  | z :: y => by
    rw [List.map_cons, List.any_cons, any_inD x y, Dat.eq]
    by_cases e : z = x
    · subst e; simp
    · have : ¬ x = z := fun q => e q.symm
      simp [e, this]
theorem st_inD [Rep α] [DecidableEq α] [Dat α] {x : α} {y : List α} {k : Bool → Res ω} (E : Env K I H σ Γ (some v2 :: some v1 :: ρ) (.im y :: .im x :: Θ)) (hd : Dat.dep (List α) ≤ 64) (hd2 : Dat.dep α ≤ 64) (h : wp ((inD x y).bind k) P X)
    (next : ∀ b v, Env K I H σ Γ (some v :: ρ) (.im b :: Θ) → wp (k b) P X → Q v H) : OpG (rInD K) v1 v2 H Q := by
  unfold inD at h
  split at h
  · rename_i hb
    have hb := (Bool.and_eq_true _ _).mp hb
    refine ⟨_, y.map Dat.toD, Dat.dp (Rep.mono E.same E.pop.topR), Dat.dp (Rep.mono E.same E.topR), shp hb.1 hd2, shp hb.2 hd, ?_⟩
    rw [any_inD]
    exact next _ _ (E.pop.pop.pushS (a := decide (x ∈ y)) trivial) h
  · exact h.elim
theorem st_niD [Rep α] [DecidableEq α] [Dat α] {x : α} {y : List α} {k : Bool → Res ω} (E : Env K I H σ Γ (some v2 :: some v1 :: ρ) (.im y :: .im x :: Θ)) (hd : Dat.dep (List α) ≤ 64) (hd2 : Dat.dep α ≤ 64) (h : wp ((niD x y).bind k) P X)
    (next : ∀ b v, Env K I H σ Γ (some v :: ρ) (.im b :: Θ) → wp (k b) P X → Q v H) : OpG (rNotInD K) v1 v2 H Q := by
  unfold niD at h
  split at h
  · rename_i hb
    have hb := (Bool.and_eq_true _ _).mp hb
    refine ⟨_, y.map Dat.toD, Dat.dp (Rep.mono E.same E.pop.topR), Dat.dp (Rep.mono E.same E.topR), shp hb.1 hd2, shp hb.2 hd, ?_⟩
    rw [any_inD]
    exact next _ _ (E.pop.pop.pushS (a := !decide (x ∈ y)) trivial) h
  · exact h.elim
end
end M
/-! texts or None; str.count of one sign; reversed(range(..)) -/
namespace M
open PySem PySem.Spec PyProof PyProof.Rows L2
/-- a text or None -/
structure OTx where
  o : Option Tx
instance (priority := high) scaOTx : Sca OTx := ⟨fun x => match x.o with | none => V.non | some t => V.str (mkS t), fun x => match x.o with | none => True | some t => t.length ≤ line⟩
def isNonO (x : OTx) : Bool := x.o.isNone
/-- the text -/
def unO (x : OTx) : Res Tx := match x.o with | some t => .ok t | none => .bad
section
variable {K : PySem.W.Frag} {mg : Str → Option Value} {I H I' H' : Hp} {σ σ' ρ : List (Option V)} {Γ Γ' Θ : List Cell} {i j n : Nat} {v v0 v1 v2 v3 : V} {te tl ti : TE} {ta tb : TE} {Q : VK}
variable {ω : Type} {P : ω → Prop} {X : Exn → Prop}
theorem Env.noneO (E : Env K I H σ Γ (some v :: ρ) (.im (u : Unit) :: Θ)) : Env K I H σ Γ (some v :: ρ) (.im (⟨none⟩ : OTx) :: Θ) := by
  have r := E.topS
  have e : v = V.non := r.1
  subst e
  exact E.pop.pushS (a := (⟨none⟩ : OTx)) trivial
theorem Env.someO {t : Tx} (E : Env K I H σ Γ (some v :: ρ) (.im t :: Θ)) : Env K I H σ Γ (some v :: ρ) (.im (⟨some t⟩ : OTx) :: Θ) := by
  have r := E.topS
  have e : v = V.str (mkS t) := r.1
  subst e
  exact E.pop.pushS (a := (⟨some t⟩ : OTx)) r.2
theorem st_unO {x : OTx} {k : Tx → Res ω} {A : Prop} (E : Env K I H σ Γ (some v :: ρ) (.im x :: Θ)) (h : wp ((unO x).bind k) P X) (next : ∀ t, Env K I H σ Γ (some v :: ρ) (.im t :: Θ) → wp (k t) P X → A) : A := by
  obtain ⟨o⟩ := x
  cases o with
  | none => exact h.elim
  | some t =>
    have r := E.topS
    have e : v = V.str (mkS t) := r.1
    subst e
    exact next t (E.pop.pushS (a := t) r.2) h
theorem hf_isNonO {d : OTx} (hΓ : Γ[i]? = some (.im d)) : HF K (tOp rIsNn (tVar i) (tC .non)) Γ (.ok (isNonO d)) := .mk fun X Q E q => by
  obtain ⟨v, hs, r⟩ := E.get hΓ
  refine ⟨v, hs, rfl, ?_⟩
  have e : decide (v = V.non) = isNonO d := by
    have r1 := r.1
    obtain ⟨o⟩ := d
    cases o with
    | none => rw [show v = V.non from r1]; rfl
    | some t => rw [show v = V.str (mkS t) from r1]; rfl
  rw [e]
  exact q trivial
theorem hf_notNonO {d : OTx} (hΓ : Γ[i]? = some (.im d)) : HF K (tOp rNotNn (tVar i) (tC .non)) Γ (.ok (!isNonO d)) := .mk fun X Q E q => by
  obtain ⟨v, hs, r⟩ := E.get hΓ
  refine ⟨v, hs, rfl, ?_⟩
  have e : decide (v = V.non) = isNonO d := by
    have r1 := r.1
    obtain ⟨o⟩ := d
    cases o with
    | none => rw [show v = V.non from r1]; rfl
    | some t => rw [show v = V.str (mkS t) from r1]; rfl
  rw [e]
  exact q trivial
/-! reversed(range(a, b)) -/
theorem rng_rev (a b : Int) : (rng a b).reverse = (List.range (b - a).toNat).map fun (i : Nat) => (a + (((b - a).toNat : Nat) : Int) - 1) + (i : Int) * (-1) := by
  unfold rng
  refine List.ext_getElem (by simp) fun i h1 h2 => ?_
  simp only [List.getElem_reverse, List.getElem_map, List.getElem_range, List.length_map, List.length_range] at h1 h2 ⊢
  simp only [List.length_reverse, List.length_map, List.length_range] at h1
  omega
theorem it_rev2 {R : It → Hp → Prop} {t1 t2 : TE} {m1 m2 : Res Int} {k : List Int → Res ω} (E : Env K I H σ Γ ρ Θ) (h1 : HF K t1 Γ m1) (h2 : HF K t2 Γ m2) (h : wp (m1.bind fun a => m2.bind fun b => (rngR a b).bind k) P X)
    (next : ∀ xs, wp (k xs) P X → ∀ J, Feeds K J xs.reverse [] [] → R J H) : iRevR (tRg2 t1 t2) σ H R := h1.run X _ E (wpb h fun a h _ => h2.run X _ E (wpb h fun b h _ => by
  unfold rngR at h
  rw [clo_eq] at h
  by_cases hr : RgOk a b
  · rw [if_pos hr] at h
    refine ⟨a, b, rfl, rfl, hr.1, hr.2.1, hr.2.2.1, hr.2.2.2, it_rngc0 (K := K) fun J hJ => next _ h J ?_⟩
    rw [rng_rev]
    exact hJ
  · rw [if_neg hr] at h
    exact h.elim))
theorem it_rev2S {R : It → Hp → Prop} {a b : Int} {k : List Int → Res ω} (E : Env K I H σ Γ (some v2 :: some v1 :: ρ) (.im b :: .im a :: Θ)) (h : wp ((rngR a b).bind k) P X)
    (next : ∀ xs, wp (k xs) P X → Env K I H σ Γ ρ Θ → ∀ J, Feeds K J xs.reverse [] [] → R J H) : ∃ i j : Int, v1 = .int i ∧ v2 = .int j ∧ (-(2 ^ 62) ≤ i ∧ i < 2 ^ 62 ∧ -(2 ^ 62) ≤ j ∧ j < 2 ^ 62 ∧ R (Itc (i + (((j - i).toNat : Nat) : Int) - 1) (-1) (j - i).toNat) H) := by
  have e2 : v2 = V.int b := E.topS.1
  have e1 : v1 = V.int a := E.pop.topS.1
  unfold rngR at h
  rw [clo_eq] at h
  by_cases hr : RgOk a b
  · rw [if_pos hr] at h
    refine ⟨a, b, e1, e2, hr.1, hr.2.1, hr.2.2.1, hr.2.2.2, it_rngc0 (K := K) fun J hJ => next _ h E.pop.pop J ?_⟩
    rw [rng_rev]
    exact hJ
  · rw [if_neg hr] at h
    exact h.elim
theorem uRevR {R : It → Hp → Prop} (h : ta σ H fun x H1 => tb σ H1 fun y H2 => ∃ i j : Int, x = .int i ∧ y = .int j ∧ (-(2 ^ 62) ≤ i ∧ i < 2 ^ 62 ∧ -(2 ^ 62) ≤ j ∧ j < 2 ^ 62 ∧ R (Itc (i + (((j - i).toNat : Nat) : Int) - 1) (-1) (j - i).toNat) H2)) : iRevR (tRg2 ta tb) σ H R := h
end
/-! x.count(one sign) -/
open StrLaws in
theorem occ_count (s : Str) (c hi limit : Nat) (hh : hi = s.cps.toList.length) : ∀ (n lo free : Nat) (found : Array Nat), free ≤ lo → lo + n = hi + 1 → found.size + n ≤ limit → ((forIn (List.range' lo n) (found, free) (occBody s ⟨#[c]⟩ hi limit)).run.fst.toList.length : Nat) = found.size + (s.cps.toList.drop lo).count c
  | 0, lo, free, found, _, h2, _ => by
    have : s.cps.toList.drop lo = [] := List.drop_of_length_le (by omega)
    rw [this]
    simp
  | n + 1, lo, free, found, h1, h2, h3 => by
    rw [List.range'_succ, List.forIn_cons]
    unfold occBody
    have l1 : (⟨#[c]⟩ : Str).length = 1 := rfl
    rw [l1]
    by_cases hc : s.cps.toList[lo]? = some c
    · have lt := (List.getElem?_eq_some_iff.mp hc).1
      rw [if_pos ⟨⟨⟨(show found.size < limit by omega), h1⟩, (show lo + 1 ≤ hi by omega)⟩, ((subAt_one s c lo).mpr hc).2⟩]
      have ih := occ_count s c hi limit hh n (lo + 1) (lo + 1) (found.push lo) (Nat.le_refl _) (by omega) (by rw [Array.size_push]; omega)
      unfold occBody at ih
      rw [l1] at ih
      refine ih.trans ?_
      rw [Array.size_push, List.drop_eq_getElem_cons lt, (List.getElem?_eq_some_iff.mp hc).2, List.count_cons_self]
      omega
    · rw [if_neg fun z => hc ((subAt_one s c lo).mp ⟨(by
        have := z.1.2
        rw [hh, ← Array.length_toList] at *
        exact this), z.2⟩)]
      have ih := occ_count s c hi limit hh n (lo + 1) free found (by omega) (by omega) (by omega)
      unfold occBody at ih
      rw [l1] at ih
      refine ih.trans ?_
      by_cases lt : lo < s.cps.toList.length
      · rw [List.drop_eq_getElem_cons lt, List.count_cons_of_ne (fun e => hc (by rw [List.getElem?_eq_getElem lt, e]))]
      · rw [List.drop_of_length_le (Nat.le_of_not_lt lt), List.drop_of_length_le (by omega)]
theorem txt_count (w : Tx) (c : Nat) : Txt.count (mkS w) (mkS [c]) = ((w.count c : Nat) : Int) := by
  have hl : (mkS w).cps.toList = w := rfl
  have hs : (mkS w).length = w.length := by
    show (mkS w).cps.size = _
    rw [← Array.length_toList, hl]
  show (((Builtin.Str.occurrences (mkS w) ⟨#[c]⟩ 0 (mkS w).length ((mkS w).length + 1)).length : Nat) : Int) = _
  rw [StrLaws.occ_eq, hs]
  have := occ_count (mkS w) c w.length (w.length + 1) (by rw [hl]) (w.length + 1 - 0) 0 0 #[] (Nat.le_refl _) (by omega) (by simp)
  rw [this, hl]
  simp
def xCnt (w s : Tx) : Res Int := match s with | [c] => .ok ((w.count c : Nat) : Int) | _ => .bad
abbrev rCnt : V → List V → Hp → VK → Prop := fun x xs H Q => ∃ a b, x = .str a ∧ xs = [.str b] ∧ Q (.int (Txt.count a b)) H
def CnG : V → List V → Hp → VK → Prop := rCnt
section
variable {K : PySem.W.Frag} {I H : Hp} {σ ρ : List (Option V)} {Γ Θ : List Cell} {v v1 v2 : V} {to te : TE} {Q : VK} {ω : Type} {P : ω → Prop} {X : Exn → Prop}
theorem uCnt (h : to σ H fun x H1 => (∃ a, x = V.str a) ∧ te σ H1 fun y H2 => CnG x [y] H2 Q) : tM1 rCnt to te σ H Q := h
theorem st_cnt {w s : Tx} {k : Int → Res ω} (E : Env K I H σ Γ (some v2 :: some v1 :: ρ) (.im s :: .im w :: Θ)) (h : wp ((xCnt w s).bind k) P X) (next : ∀ t v, Env K I H σ Γ (some v :: ρ) (.im t :: Θ) → wp (k t) P X → Q v H) : CnG v1 [v2] H Q := by
  have e2 : v2 = V.str (mkS s) := E.topS.1
  have e1 : v1 = V.str (mkS w) := E.pop.topS.1
  subst e1 e2
  unfold xCnt at h
  split at h
  · rename_i c
    refine ⟨_, _, rfl, rfl, ?_⟩
    rw [txt_count]
    exact next _ _ (E.pop.pop.pushS (a := ((w.count c : Nat) : Int)) trivial) h
  · exact h.elim
end
end M
/-! t[::-1] of a tuple -/
namespace HTR
open PySem PySem.Spec PyProof.Rows HT
section
variable {prog : Program} {w : World} {A : Around} {E : Value → Shared → Prop} {s : Shared}
theorem adjust_rev (n : Nat) : Builtin.Slice.sliceAdjust none none (-1) (n : Int) = ((n : Int) - 1, -1) := rfl
theorem places_rev (n : Nat) : Builtin.Slice.slicePlaces ((n : Int) - 1) (-1) (-1) = n := by
  unfold Builtin.Slice.slicePlaces
  simp only [show ¬ ((-1 : Int) > 0) by omega, if_false]
  by_cases h : n = 0
  · subst h; rfl
  · rw [if_pos (by omega)]
    show ((((n : Int) - 1 - -1 - 1) / 1 + 1).toNat) = n
    rw [Int.ediv_one]
    omega
theorem pick_rev (xs : Array Value) : ((List.range xs.size).filterMap fun (m : Nat) => xs[(((xs.size : Int) - 1) + (m : Int) * (-1)).toNat]?).toArray = xs.toList.reverse.toArray := by
  congr 1
  have e : ∀ m ∈ List.range xs.size, (xs[(((xs.size : Int) - 1) + (m : Int) * (-1)).toNat]?) = some (xs.toList.reverse.getD m .none) := fun m hm => by
    have hm := List.mem_range.mp hm
    have e1 : (((xs.size : Int) - 1) + (m : Int) * (-1)).toNat = xs.size - 1 - m := by omega
    rw [e1, List.getD_eq_getElem?_getD, List.getElem?_reverse (by rw [Array.length_toList]; exact hm), Array.length_toList, Array.getElem?_toList, Array.getElem?_eq_getElem (by omega)]
    rfl
  have fm : ∀ (l : List Nat) (f : Nat → Option Value) (g : Nat → Value), (∀ m ∈ l, f m = some (g m)) → l.filterMap f = l.map g := fun l f g h => by
    induction l with
    | nil => rfl
    | cons m l ih => rw [List.filterMap_cons, h m List.mem_cons_self, List.map_cons, ih fun q hq => h q (List.mem_cons_of_mem _ hq)]
  rw [fm _ _ _ e]
  refine List.ext_getElem (by simp) fun i h1 h2 => ?_
  rw [List.getElem_map, List.getElem_range, List.getD_eq_getElem?_getD, List.getElem?_eq_getElem h2]
  rfl
theorem sliceApplied_rev {sl : Addr} {vl vu vs : Value} {n : Nat} {Q : Int × Int × Nat → Shared → Prop} (hs : s.heap.IsSliceOf sl vl vu vs) (pl : IsPart vl none) (pu : IsPart vu none) (ps : IsPart vs (some (-1)))
    (h : Q ((n : Int) - 1, -1, n) s) : wpAny (model prog w) A (Builtin.Slice.sliceApplied (.ref sl) (pure (n : Int))) Q E s := by
  obtain ⟨os, hos, hcs, hds⟩ := id hs
  unfold Builtin.Slice.sliceApplied Builtin.Slice.sliceFields
  refine wpAny_bind (wpAny_bind (wpAny_field hos hds (x := vl) rfl (wpAny_bind (wpAny_field hos hds (x := vu) rfl (wpAny_bind (wpAny_field hos hds (x := vs) rfl (wpAny_pure ?_)))))))
  refine wpAny_bind (slicePart_ ps ?_)
  show wpAny _ _ (if ((-1 : Int) == 0) = true then _ else _) _ _ s
  rw [if_neg (by decide)]
  refine wpAny_bind (slicePart_ pl (wpAny_bind (slicePart_ pu (wpAny_bind (wpAny_pure ?_)))))
  show wpAny _ _ (match Builtin.Slice.sliceAdjust none none (-1) (n : Int) with | (lo, hi) => pure (lo, (-1 : Int), Builtin.Slice.slicePlaces lo hi (-1))) _ _ s
  rw [adjust_rev]
  show wpAny _ _ (pure ((n : Int) - 1, (-1 : Int), Builtin.Slice.slicePlaces ((n : Int) - 1) (-1) (-1))) _ _ s
  rw [places_rev]
  exact wpAny_pure h
theorem getItem_tuple_rev {t sl : Addr} {items : Array Value} {vl vu vs : Value} {Q : Value → Shared → Prop} (ht : IsTup s.heap t items) (hs : s.heap.IsSliceOf sl vl vu vs) (pl : IsPart vl none) (pu : IsPart vu none) (ps : IsPart vs (some (-1)))
    (h : Q (.ref s.heap.objs.size) { s with heap := s.heap.push { cls := .type "tuple", data := .seq items.toList.reverse.toArray } })
    (hsz : items.size ≤ sizeLine) : wpAny (model prog w) A (getItem (.ref t) (.ref sl)) Q E s := by
  have htake : sizeOk (.seq items.toList.reverse.toArray) := by
    show items.toList.reverse.toArray.size ≤ sizeLine
    rw [List.size_toArray, List.length_reverse, Array.length_toList]
    exact hsz
  obtain ⟨os, hos, hcs, hds⟩ := id hs
  have hTs : s.TypeIs (.ref sl) "slice" := ⟨os, hos, hcs⟩
  unfold getItem
  try with_reducible refine wpAny_holding ?_
  first | refine wpAny_bind (wpAny_pure ?_) | skip
  refine wpAny_bind (wpAny_sequenceKey ht.typeIs (by decide) ?_)
  refine wpAny_bind (wpAny_callSpecial?_slot (name := Str.ofString "__getitem__") ht.typeIs PyProof.Rows.slot_tuple_getitem
    (wpAny_call_entry PyProof.Rows.slot_tuple_getitem ht.typeIs entry_tuple_getitem ?_ (args_tuple_getitem _ _)))
  show wpAny _ _ (Builtin.Tuple.tupleItemsOf (.ref t) >>= _) _ _ s
  refine wpAny_bind (tupleItemsOf_ ht ?_)
  refine wpAny_bind (wpAny_typeOf hTs ?_)
  rw [if_pos (by decide)]
  refine wpAny_bind (sliceApplied_rev hs pl pu ps ?_)
  show wpAny _ _ (if (((items.size : Int) - 1) == 0 && (-1 : Int) == 1 && items.size == items.size) = true then _ else _) _ _ s
  rw [if_neg (by rw [show ((-1 : Int) == 1) = false from rfl, Bool.and_false, Bool.false_and]; exact Bool.false_ne_true), pick_rev]
  first
    | exact wpAny_bind (m := Builtin.Tuple.tupleExact _) (wpAny_newObj_type (wpAny_pure ⟨_, rfl, wpAny_pure h⟩) htake)
    | exact wpAny_bind (m := Builtin.Tuple.tupleExact _) (wpAny_newObj_type (wpAny_bind (wpAny_pure (wpAny_pure ⟨_, rfl, wpAny_pure h⟩))) htake)
    | exact wpAny_bind (wpAny_bind (m := Builtin.Tuple.tupleExact _) (wpAny_newObj_type (wpAny_pure (wpAny_pure ⟨_, rfl, wpAny_pure h⟩)) htake))
    | exact wpAny_bind (wpAny_bind (m := Builtin.Tuple.tupleExact _) (wpAny_newObj_type (wpAny_pure ⟨_, rfl, wpAny_pure h⟩) htake))
end
end HTR
namespace M
open PySem PySem.Spec PyProof PyProof.Rows L2
def tRevT (K : PySem.W.Frag) (te : TE) : TE := fun σ H Q => te σ H fun x H1 => ∃ a xs, x = .ref a ∧ SqT K H1 a xs ∧ ∀ p, H1 p = none → Q (.ref p) (upd H1 p (.tup xs.reverse))
theorem pe_revT {X : Cx} {e : Expr} {te : TE} {k : Nat} {p1 p2 p3 pos : Pos} (he : PE X e te) : PE X (.Subscript e (.Slice none none (some (.UnaryOp .USub (.Constant (.int 1) k p1) p2)) p3) pos) (tRevT X.K te) := by
  refine ⟨fun pins s σ H Q I h => ?_⟩
  refine Subscript_ (thn (he.run pins s σ H _ I h) fun v s1 ⟨x, H1, I1, r1, q1⟩ => ?_)
  obtain ⟨a, xs, ex, hx, q⟩ := q1
  subst ex
  cases r1
  have hst : PO X (some (.UnaryOp .USub (.Constant (.int 1) k p1) p2)) (tPart (tUn (rU fun i => .int (-i)) (tC (.int 1)))) := po_some (pe_un un_neg pe_int)
  refine wpAny_Slice (thn (po_none.run pins s1 σ H1 (fun o H2 => o = none ∧ H2 = H1) I1 ⟨rfl, rfl⟩) fun vl s2 ⟨l, H2, I2, pl, el, e2⟩ => ?_)
  subst el e2
  refine thn (po_none.run pins s2 σ H2 (fun o H3 => o = none ∧ H3 = H2) I2 ⟨rfl, rfl⟩) fun vu s3 ⟨u, H3, I3, pu, eu, e3⟩ => ?_
  subst eu e3
  refine thn (hst.run pins s3 σ H3 (fun o H4 => o = some (-1) ∧ H4 = H3) I3 ⟨1, rfl, -1, rfl, rfl, rfl⟩) fun vs s4 ⟨o, H4, I4, ps, eo, e4⟩ => ?_
  subst eo e4
  have I5 : Inv X pins σ H4 { s4 with heap := s4.heap.push { cls := .type "slice", data := .fields #[vl, vu, vs] } } := I4.kept (t' := s4.toks) fun b ob q => Heap.get?_push_of_some _ q
  obtain ⟨its, r, ht, hz⟩ := I5.tuple hx
  have hlen := r.length
  refine tail_any (ops := [.ref a, .ref s4.heap.objs.size]) ht.typeIs (PyProof.Rows.slot_tuple_getitem.lookup) ?_ (by with_unfolding_all rfl)
  refine HTR.getItem_tuple_rev ht (Heap.IsSliceOf.new _ vl vu vs) pl pu ps ?_ (by rw [List.size_toArray]; omega)
  refine ⟨.ref _, _, I5.laid (t' := s4.toks) (o := .tup xs.reverse) (fun b ob q => Heap.get?_push_of_some _ q) (Nat.le_refl _) ?_, rfl, q _ (I5.hok.fresh (Nat.le_refl _))⟩
  exact ⟨by rw [List.length_reverse]; exact hz, _, r.reverse, IsTup.new _ _⟩
def RevTG (K : PySem.W.Frag) (x : V) (H1 : Hp) (Q : VK) : Prop := ∃ a xs, x = .ref a ∧ SqT K H1 a xs ∧ ∀ p, H1 p = none → Q (.ref p) (upd H1 p (.tup xs.reverse))
section
variable {K : PySem.W.Frag} {I H : Hp} {σ ρ : List (Option V)} {Γ Θ : List Cell} {v : V} {te : TE} {Q : VK} {α : Type}
theorem uRevT (h : te σ H fun x H1 => RevTG K x H1 Q) : tRevT K te σ H Q := h
theorem st_revT [Rep α] {xs : TupL α} (E : Env K I H σ Γ (some v :: ρ) (.im xs :: Θ)) (next : ∀ I' H' v, Env K I' H' σ Γ (some v :: ρ) (.im (TupL.mk xs.l.reverse) :: Θ) → Q v H') : RevTG K v H Q := by
  obtain ⟨a, vs, rfl, ha, pr⟩ := E.topR
  refine ⟨a, vs, rfl, same_seqT E.same ha, fun p hp => ?_⟩
  obtain ⟨I', E'⟩ := (Env.pop E).pushT hp (paired_rev pr)
  exact next _ _ _ E'
end
end M
namespace M
open PySem PySem.Spec PyProof PyProof.Rows L2
theorem pe_count {X : Cx} {o e : Expr} {to te : TE} {apos pos : Pos} (ho : PE X o to) (he : PE X e te) (hs : starEach [e] X.env = [(false, eval e X.env)] := by rfl) (hbase : attributeBase o "count" X.env (eval o X.env) = eval o X.env := by rfl) (hline : (apos.endLine == pos.line) = true := by rfl) :
    PE X (.Call (.Attribute o "count" apos) [e] [] pos) (tM1 rCnt to te) := pe_m1 F.slot_str_count F.type_str_count mt_count ho he hs hbase hline
end M
/-! objects of own classes: attributes in a fixed order -/
namespace M
open PySem PySem.Spec PyProof PyProof.Rows L2
/-- where the top has the class -/
def ClsAt (K : PySem.W.Frag) (c : Str) (C : Addr) : Prop := PySem.W.nsIn K mainGlobals c = some (some (.ref C))
theorem ClsAt.uniq {K : PySem.W.Frag} {c : Str} {C D : Addr} (h : ClsAt K c C) (k : ClsAt K c D) : C = D := by
  have e := h.symm.trans k
  cases e
  rfl
class RepL (τ : Type) where
  rpl : PySem.W.Frag → Hp → List V → τ → Prop
  mono : ∀ {K : PySem.W.Frag} {I J : Hp} {vs : List V} {a : τ}, Same I J → rpl K I vs a → rpl K J vs a
instance replU : RepL Unit := ⟨fun _ _ vs _ => vs = [], fun _ h => h⟩
instance replC {α τ : Type} [Rep α] [RepL τ] : RepL (α × τ) := ⟨fun K I vs x => ∃ v r, vs = v :: r ∧ Rep.rp K I v x.1 ∧ RepL.rpl K I r x.2, fun e ⟨v, r, e1, h1, h2⟩ => ⟨v, r, e1, Rep.mono e h1, RepL.mono e h2⟩⟩
/-- an object of the class c with the attributes fs, unchanging -/
structure Ob (c : Str) (fs : List Str) (τ : Type) where
  v : τ
/-- one that is being made -/
structure Obw (c : Str) (fs : List Str) (τ : Type) where
  v : τ
instance repObj {c : Str} {fs : List Str} {τ : Type} [RepL τ] : Rep (Ob c fs τ) where
  rp K I v x := ∃ p dx C vs, v = .ref p ∧ ClsAt K c C ∧ vs.length = fs.length ∧ I p = some (.ins C dx (fs.zip vs)) ∧ RepL.rpl K I vs x.v
  mono := fun e h => by
    obtain ⟨p, dx, C, vs, e1, e2, e3, e4, e5⟩ := h
    exact ⟨p, dx, C, vs, e1, e2, e3, e _ _ e4, RepL.mono e e5⟩
instance ownObw {c : Str} {fs : List Str} {τ : Type} [RepL τ] : Own (Obw c fs τ) where
  ow K fp I H v x := ∃ p dx C vs, v = .ref p ∧ fp = [p, dx] ∧ ClsAt K c C ∧ vs.length = fs.length ∧ H p = some (.ins C dx (fs.zip vs)) ∧ H dx = some (.own p) ∧ RepL.rpl K I vs x.v
  mono := fun e k h => by
    obtain ⟨p, dx, C, vs, e1, e2, e3, e4, e5, e6, e7⟩ := h
    exact ⟨p, dx, C, vs, e1, e2, e3, e4, by subst e2; rw [k p (by simp)]; exact e5, by subst e2; rw [k dx (by simp)]; exact e6, RepL.mono e e7⟩
section
variable {K : PySem.W.Frag} {I H I' H' : Hp} {es : List Ent} {o : Option V} {c : Str}
theorem EnvL.newB {p dx C : Addr} (h : EnvL K I H es) (hp : H p = none) (hd : H dx = none) (ne : dx ≠ p) (hC : ClsAt K c C) : EnvL K I (upd (upd H dx (.own p)) p (.ins C dx [])) ((some (.ref p), .own (Obw.mk () : Obw c [] Unit)) :: es) := by
  have hip := h.none_of hp
  have hid := h.none_of hd
  obtain ⟨s0, fs0, h10, h20, h30⟩ := h
  have k0 : ∀ a, a ≠ p → a ≠ dx → upd (upd H dx (.own p)) p (.ins C dx []) a = H a := fun a a1 a2 => by rw [upd_ne a1, upd_ne a2]
  have nf : ∀ a ∈ fs0.flatten, a ≠ p ∧ a ≠ dx := fun a ha => ⟨fun q => (h30 a ha).2 (by rw [q]; exact hp), fun q => (h30 a ha).2 (by rw [q]; exact hd)⟩
  refine ⟨fun a u e => ?_, [p, dx] :: fs0, ⟨⟨.ref p, rfl, (fun _ z => nomatch z), p, dx, C, [], rfl, rfl, hC, rfl, upd_same, by rw [upd_ne ne, upd_same], rfl⟩, Ents.mono (Same.refl _) (fun a ha => k0 a (nf a ha).1 (nf a ha).2) h10⟩, ?_, fun a ha => ?_⟩
  · rw [k0 a (ne_of_none e hip) (ne_of_none e hid)]
    exact s0 a u e
  · rw [List.flatten_cons]
    refine List.nodup_append.mpr ⟨by simp [ne.symm], h20, fun a ha b hb q => ?_⟩
    subst q
    have := nf a hb
    rcases List.mem_cons.mp ha with e | e
    · exact this.1 e
    · exact this.2 (List.mem_singleton.mp e)
  · rw [List.flatten_cons] at ha
    rcases List.mem_append.mp ha with ha | ha
    · rcases List.mem_cons.mp ha with e | e
      · subst e
        exact ⟨hip, by rw [upd_same]; exact fun z => nomatch z⟩
      · have e := List.mem_singleton.mp e
        subst e
        exact ⟨hid, by rw [upd_ne ne, upd_same]; exact fun z => nomatch z⟩
    · have := nf a ha
      exact ⟨(h30 a ha).1, by rw [k0 a this.1 this.2]; exact (h30 a ha).2⟩
theorem EnvL.ownB {fs : List Str} {τ : Type} [RepL τ] {x : Obw c fs τ} {pn : Option V} (h : EnvL K I H ((o, .own x pn) :: es)) : ∃ p dx C vs, o = some (.ref p) ∧ H p = some (.ins C dx (fs.zip vs)) ∧ I p = none ∧ ClsAt K c C ∧ vs.length = fs.length ∧ RepL.rpl K I vs x.v ∧
    (∀ {I' H' : Hp}, Grow I H I' H' → ∀ (fs' : List Str) (vs' : List V) {τ' : Type} [RepL τ'] (y : τ'), vs'.length = fs'.length → RepL.rpl K I' vs' y → EnvL K I' (upd H' p (.ins C dx (fs'.zip vs'))) ((o, .own (Obw.mk y : Obw c fs' τ') pn) :: es)) ∧
    EnvL K (upd I p (.ins C dx (fs.zip vs))) H ((o, .im (Ob.mk x.v : Ob c fs τ)) :: es) := by
  obtain ⟨s, fs0, h1, h2, h3⟩ := id h
  cases fs0 with
  | nil => exact h1.elim
  | cons f fs0 =>
    obtain ⟨⟨v, e1, e0, p, dx, C, vs, e2, e3, hC, hl, hp, hd, r⟩, h1⟩ := h1
    dsimp only at e1
    subst e1 e2 e3
    rw [List.flatten_cons] at h2 h3
    have hn := List.nodup_append.mp h2
    have pI := (h3 p (by simp)).1
    have dI := (h3 dx (by simp)).1
    have npf : ∀ a ∈ fs0.flatten, a ≠ p := fun a ha q => hn.2.2 p (by simp) a ha q.symm
    have ndp : dx ≠ p := fun q => by
      have := hn.1
      rw [q] at this
      simp at this
    refine ⟨p, dx, C, vs, rfl, hp, pI, hC, hl, r, fun {I' H'} g fs' vs' τ' _ y hl' r' => ?_, ?_⟩
    · have pI' : I' p = none := by rw [g.old p (by rw [hp]; exact fun z => nomatch z)]; exact pI
      refine ⟨fun a u e => ?_, [p, dx] :: fs0, ⟨⟨.ref p, rfl, e0, p, dx, C, vs', rfl, rfl, hC, hl', upd_same, by rw [upd_ne ndp]; exact g.keep _ _ hd, r'⟩, Ents.mono g.im (fun a ha => ?_) h1⟩, by rw [List.flatten_cons]; exact h2, fun a ha => ?_⟩
      · rw [upd_ne (ne_of_none e pI')]
        exact g.sub a u e
      · rw [upd_ne (npf a ha)]
        cases e : H a with
        | none => exact absurd e (h3 a (List.mem_append_right _ ha)).2
        | some u => exact g.keep a u e
      · rw [List.flatten_cons] at ha
        have q := h3 a ha
        refine ⟨by rw [g.old a q.2]; exact q.1, ?_⟩
        by_cases hap : a = p
        · rw [hap, upd_same]; exact fun z => nomatch z
        · rw [upd_ne hap]
          cases e : H a with
          | none => exact absurd e q.2
          | some u => rw [g.keep a u e]; exact fun z => nomatch z
    · have sI : Same I (upd I p (.ins C dx (fs.zip vs))) := fun a u e => by rw [upd_ne (ne_of_none e pI)]; exact e
      refine ⟨fun a u e => ?_, [] :: fs0, ⟨⟨rfl, .ref p, rfl, p, dx, C, vs, rfl, hC, hl, upd_same, RepL.mono sI r⟩, Ents.mono sI (fun _ _ => rfl) h1⟩, hn.2.1, fun a ha => ?_⟩
      · by_cases hap : a = p
        · rw [hap, upd_same] at e; rw [hap, hp]; exact e
        · rw [upd_ne hap] at e; exact s a u e
      · have q := h3 a (List.mem_append_right _ ha)
        exact ⟨by rw [upd_ne (npf a ha)]; exact q.1, q.2⟩
end
/-! the attributes by their places -/
def FlA (K : PySem.W.Frag) (I : Hp) (vs : List V) (i : Nat) {α : Type} [Rep α] (a : α) : Prop := ∃ v, vs[i]? = some v ∧ Rep.rp K I v a
section
variable {K : PySem.W.Frag} {I H : Hp} {vs r : List V} {v : V} {i : Nat} {α β τ τ' : Type} [Rep α] [Rep β] [RepL τ] [RepL τ']
theorem fl0 {x : α × τ} (h : RepL.rpl K I vs x) : FlA K I vs 0 x.1 := by
  obtain ⟨w, r, e, h1, _⟩ := h
  exact ⟨w, by rw [e]; rfl, h1⟩
theorem flS {x : β × τ} {a : α} (h : RepL.rpl K I vs x) (k : ∀ r, RepL.rpl K I r x.2 → FlA K I r i a) : FlA K I vs (i + 1) a := by
  obtain ⟨w, r, e, _, h2⟩ := h
  obtain ⟨u, e2, h3⟩ := k r h2
  exact ⟨u, by rw [e]; exact e2, h3⟩
theorem fw0 {x : α × τ} {a : α} (h : RepL.rpl K I vs x) (ha : Rep.rp K I v a) : RepL.rpl K I (vs.set 0 v) (a, x.2) := by
  obtain ⟨w, r, e, _, h2⟩ := h
  exact ⟨v, r, by rw [e]; rfl, ha, h2⟩
theorem fwS {x : β × τ} {y : τ} (h : RepL.rpl K I vs x) (k : ∀ r, RepL.rpl K I r x.2 → RepL.rpl K I (r.set i v) y) : RepL.rpl K I (vs.set (i + 1) v) (x.1, y) := by
  obtain ⟨w, r, e, h1, h2⟩ := h
  exact ⟨w, r.set i v, by rw [e]; rfl, h1, k r h2⟩
theorem fa0 {a : α} {x : Unit} (h : RepL.rpl K I vs x) (ha : Rep.rp K I v a) : RepL.rpl K I (vs ++ [v]) (a, ()) := by
  have e : vs = [] := h
  exact ⟨v, [], by rw [e]; rfl, ha, rfl⟩
theorem faS {x : β × τ} {y : τ'} (h : RepL.rpl K I vs x) (k : ∀ r, RepL.rpl K I r x.2 → RepL.rpl K I (r ++ [v]) y) : RepL.rpl K I (vs ++ [v]) (x.1, y) := by
  obtain ⟨w, r, e, h1, h2⟩ := h
  exact ⟨w, r ++ [v], by rw [e]; rfl, h1, k r h2⟩
end
theorem lookup_zip {f : Str} : ∀ {fs : List Str} {vs : List V} {i : Nat}, vs.length = fs.length → fs[i]? = some f → (fs.take i).contains f = false → (fs.zip vs).lookup f = vs[i]?
  | [], _, _, _, h, _ => by simp at h
  | g :: fs, [], _, hl, _, _ => by simp at hl
  | g :: fs, v :: vs, 0, _, h, _ => by
    have e : g = f := by simpa using h
    subst e
    simp [List.lookup]
  | g :: fs, v :: vs, i + 1, hl, h, hn => by
    rw [List.take_succ_cons, List.contains_cons, Bool.or_eq_false_iff] at hn
    have ih := lookup_zip (fs := fs) (vs := vs) (i := i) (f := f) (by simpa using hl) (by simpa using h) hn.2
    rw [List.zip_cons_cons, List.lookup_cons, hn.1]
    simpa using ih
theorem lookup_none {f : Str} : ∀ {fs : List Str} {vs : List V}, fs.contains f = false → (fs.zip vs).lookup f = none
  | [], _, _ => by simp
  | g :: fs, [], _ => by simp
  | g :: fs, v :: vs, hn => by
    rw [List.contains_cons, Bool.or_eq_false_iff] at hn
    rw [List.zip_cons_cons, List.lookup_cons, hn.1]
    exact lookup_none hn.2
theorem putF_at {f : Str} {v : V} : ∀ {fs : List Str} {vs : List V} {i : Nat}, vs.length = fs.length → fs[i]? = some f → (fs.take i).contains f = false → putF f v (fs.zip vs) = fs.zip (vs.set i v)
  | [], _, _, _, h, _ => by simp at h
  | g :: fs, [], _, hl, _, _ => by simp at hl
  | g :: fs, u :: vs, 0, _, h, _ => by
    have e : g = f := by simpa using h
    subst e
    simp [putF]
  | g :: fs, u :: vs, i + 1, hl, h, hn => by
    rw [List.take_succ_cons, List.contains_cons, Bool.or_eq_false_iff] at hn
    have ne : g ≠ f := fun e => by
      subst e
      have := hn.1
      simp at this
    have ih := putF_at (fs := fs) (vs := vs) (i := i) (f := f) (v := v) (by simpa using hl) (by simpa using h) hn.2
    rw [List.zip_cons_cons, List.set_cons_succ, List.zip_cons_cons, ← ih]
    exact if_neg ne
theorem putF_new {f : Str} {v : V} : ∀ {fs : List Str} {vs : List V}, vs.length = fs.length → fs.contains f = false → putF f v (fs.zip vs) = (fs ++ [f]).zip (vs ++ [v])
  | [], vs, hl, _ => by
    have e : vs = [] := List.eq_nil_of_length_eq_zero (by simpa using hl)
    subst e
    rfl
  | g :: fs, [], hl, _ => by simp at hl
  | g :: fs, u :: vs, hl, hn => by
    rw [List.contains_cons, Bool.or_eq_false_iff] at hn
    have ne : g ≠ f := fun e => by
      subst e
      have := hn.1
      simp at this
    have ih := putF_new (fs := fs) (vs := vs) (f := f) (v := v) (by simpa using hl) hn.2
    rw [List.cons_append, List.cons_append, List.zip_cons_cons, List.zip_cons_cons, ← ih]
    exact if_neg ne
end M
/-! objects of own classes: attributes read and stored, made, their methods -/
namespace M
open PySem PySem.Spec PyProof PyProof.Rows L2
def FldG (K : PySem.W.Frag) (f : Str) (x : V) (H : Hp) (Q : VK) : Prop := ∃ a C dx fs v, x = .ref a ∧ H a = some (.ins C dx fs) ∧ Cls K C ∧ NoAttr K C f ∧ fs.lookup f = some v ∧ Q v H
/-- what stands under a name of the top as a class -/
structure KO (K : PySem.W.Frag) (c : Str) (C : Addr) : Prop where
  at_ : ClsAt K c C
  cls : Cls K C
section
variable {K : PySem.W.Frag} {mg : Str → Option Value} {I H I' H' : Hp} {σ σ' ρ ρ' : List (Option V)} {Γ Γ' Θ Θ' : List Cell} {i j n : Nat} {v v0 v1 v2 v3 : V} {te tv ta : TE} {Q : VK} {W : WX} {f c m : Str} {C : Addr} {fs : List Str} {D : Ends}
variable {pn : Option V} {ω : Type} {P : ω → Prop} {X : Exn → Prop} {α β τ τ' : Type}
theorem uFld (h : ta σ H fun x H1 => FldG K f x H1 Q) : tFld K ta f σ H Q := h
theorem obj_at [RepL τ] {x : Ob c fs τ} (r : Rep.rp K I v x) (s : Same I H) (ko : KO K c C) : ∃ p dx vs, v = .ref p ∧ vs.length = fs.length ∧ H p = some (.ins C dx (fs.zip vs)) ∧ RepL.rpl K I vs x.v := by
  obtain ⟨p, dx, C', vs, e1, e2, e3, e4, e5⟩ := r
  have e := ClsAt.uniq e2 ko.at_
  subst e
  exact ⟨p, dx, vs, e1, e3, s _ _ e4, e5⟩
theorem st_fld [RepL τ] [Rep α] {x : Ob c fs τ} {y : α} (E : Env K I H σ Γ (some v :: ρ) (.im x :: Θ)) (ko : KO K c C) (na : NoAttr K C f) (hi : fs[i]? = some f) (hn : (fs.take i).contains f = false) (hf : ∀ {I vs}, RepL.rpl K I vs x.v → FlA K I vs i y)
    (next : ∀ v', Env K I H σ Γ (some v' :: ρ) (.im y :: Θ) → Q v' H) : FldG K f v H Q := by
  obtain ⟨p, dx, vs, rfl, hl, hp, r⟩ := obj_at E.topR E.same ko
  obtain ⟨w, hw, rw'⟩ := hf r
  exact ⟨p, C, dx, _, w, rfl, hp, ko.cls, na, (lookup_zip hl hi hn).trans hw, next w (E.pop.push rw')⟩
theorem hf_fld [RepL τ] [Sca α] {x : Ob c fs τ} {y : α} (hΓ : Γ[j]? = some (.im x)) (ko : KO K c C) (na : NoAttr K C f) (hi : fs[i]? = some f) (hn : (fs.take i).contains f = false) (hf : ∀ {I vs}, RepL.rpl K I vs x.v → FlA K I vs i y) : HF K (tFld K (tVar j) f) Γ (.ok y) := .mk fun X Q E q => by
  obtain ⟨w, hs, r⟩ := E.get hΓ
  obtain ⟨p, dx, vs, rfl, hl, hp, r⟩ := obj_at r E.same ko
  obtain ⟨u, hu, ru⟩ := hf r
  have e1 : u = Sca.enc y := ru.1
  refine ⟨_, hs, p, C, dx, _, u, rfl, hp, ko.cls, na, (lookup_zip hl hi hn).trans hu, ?_⟩
  rw [e1]
  exact q ru.2
/-- an object that is being made, at a slot -/
theorem Env.objAt [RepL τ] {x : Obw c fs τ} (E : Env K I H σ Γ ρ Θ) (h : Γ[i]? = some (.own x pn)) : ∃ p dx C vs, σ[i]? = some (some (.ref p)) ∧ H p = some (.ins C dx (fs.zip vs)) ∧ I p = none ∧ ClsAt K c C ∧ vs.length = fs.length ∧ RepL.rpl K I vs x.v ∧
    (∀ {I' H' : Hp}, Grow I H I' H' → ∀ (fs' : List Str) (vs' : List V) {τ' : Type} [RepL τ'] (y : τ'), vs'.length = fs'.length → RepL.rpl K I' vs' y → Env K I' (upd H' p (.ins C dx (fs'.zip vs'))) σ (Γ.set i (.own (Obw.mk y : Obw c fs' τ') pn)) ρ Θ) := by
  obtain ⟨o, r, ho, e, back⟩ := E.pick h
  obtain ⟨p, dx, C, vs, e1, hp, pI, hC, hl, q, ch, _⟩ := e.ownB
  subst e1
  have ss : σ.set i (some (V.ref p)) = σ := set_same ho
  refine ⟨p, dx, C, vs, ho, hp, pI, hC, hl, q, fun {I' H'} g fs' vs' τ' _ y hl' r' => ?_⟩
  have z := back _ _ (ch g fs' vs' y hl' r')
  rw [ss] at z
  exact z
theorem hf_fldO [RepL τ] [Sca α] {x : Obw c fs τ} {y : α} (hΓ : Γ[j]? = some (.own x pn)) (ko : KO K c C) (na : NoAttr K C f) (hi : fs[i]? = some f) (hn : (fs.take i).contains f = false) (hf : ∀ {I vs}, RepL.rpl K I vs x.v → FlA K I vs i y) : HF K (tFld K (tVar j) f) Γ (.ok y) := .mk fun X Q E q => by
  obtain ⟨p, dx, C', vs, hs, hp, _, hC, hl, r, _⟩ := E.objAt hΓ
  have e := ClsAt.uniq hC ko.at_
  subst e
  obtain ⟨u, hu, ru⟩ := hf r
  have e1 : u = Sca.enc y := ru.1
  refine ⟨_, hs, p, C', dx, _, u, rfl, hp, ko.cls, na, (lookup_zip hl hi hn).trans hu, ?_⟩
  rw [e1]
  exact q ru.2
/-! self.f = value -/
def SFG (K : PySem.W.Frag) (j : Nat) (f : Str) (D : Ends) (σ : L2.St) (y : V) (H1 : Hp) : Prop := (tVar j) σ H1 fun x H2 => ∃ a C dx fs, x = .ref a ∧ H2 a = some (.ins C dx fs) ∧ Cls K C ∧ NoAttr K C f ∧ fs.length < 1000 ∧ D.nx σ (upd H2 a (.ins C dx (putF f y fs)))
theorem uSFld (h : tv σ H fun y H1 => SFG K j f D σ y H1) : sFld K (tVar j) tv f D σ H := h
theorem st_sfldN [RepL τ] [RepL τ'] [Rep α] {x : Obw c fs τ} {a : α} {y : τ'} (E : Env K I H σ Γ (some v :: ρ) (.im a :: Θ)) (hΓ : Γ[j]? = some (.own x pn)) (ko : KO K c C) (na : NoAttr K C f) (hl : fs.length < 900) (hn : fs.contains f = false)
    (ha : ∀ {I vs v}, RepL.rpl K I vs x.v → Rep.rp K I v a → RepL.rpl K I (vs ++ [v]) y) (next : ∀ H', Env K I H' σ (Γ.set j (.own (Obw.mk y : Obw c (fs ++ [f]) τ') pn)) ρ Θ → D.nx σ H') : SFG K j f D σ v H := by
  have ra := E.topR
  obtain ⟨p, dx, C', vs, hs, hp, _, hC, hl2, r, ch⟩ := E.pop.objAt hΓ
  have e := ClsAt.uniq hC ko.at_
  subst e
  refine ⟨_, hs, p, C', dx, _, rfl, hp, ko.cls, na, by rw [List.length_zip]; omega, ?_⟩
  rw [putF_new hl2 hn]
  exact next _ (ch (Grow.refl E.same) (fs ++ [f]) (vs ++ [v]) y (by simp [hl2]) (ha r ra))
theorem st_sfldU [RepL τ] [Rep α] {x : Obw c fs τ} {a : α} {y : τ} (E : Env K I H σ Γ (some v :: ρ) (.im a :: Θ)) (hΓ : Γ[j]? = some (.own x pn)) (ko : KO K c C) (na : NoAttr K C f) (hl : fs.length < 900) (hi : fs[i]? = some f) (hn : (fs.take i).contains f = false)
    (ha : ∀ {I vs v}, RepL.rpl K I vs x.v → Rep.rp K I v a → RepL.rpl K I (vs.set i v) y) (next : ∀ H', Env K I H' σ (Γ.set j (.own (Obw.mk y : Obw c fs τ) pn)) ρ Θ → D.nx σ H') : SFG K j f D σ v H := by
  have ra := E.topR
  obtain ⟨p, dx, C', vs, hs, hp, _, hC, hl2, r, ch⟩ := E.pop.objAt hΓ
  have e := ClsAt.uniq hC ko.at_
  subst e
  refine ⟨_, hs, p, C', dx, _, rfl, hp, ko.cls, na, by rw [List.length_zip]; omega, ?_⟩
  rw [putF_at hl2 hi hn]
  exact next _ (ch (Grow.refl E.same) fs (vs.set i v) y (by simp [hl2]) (ha r ra))
/-! C(..) -/
/-- the promise of an __init__ -/
def SpI (K : PySem.W.Frag) (mg : Str → Option Value) (c : Str) (fs : List Str) {τ A : Type} [RepL τ] (n : Nat) (cells : A → List Cell) (m : A → Res τ) : Sp := fun vs H Q E =>
  vs.length = n + 1 ∧ ∃ (a : A) (I : Hp) (ρ : List (Option V)) (Θ : List Cell), Env K I H (vs.map some) (.own (Obw.mk () : Obw c [] Unit) vs.head? :: cells a) ρ Θ ∧
    wp (m a) (fun b => ∀ I' H' v, Env K I' H' [vs.head?] [.own (Obw.mk b : Obw c fs τ) vs.head?] (some v :: ρ) (.im () :: Θ) → Q v H')
      (fun e => ∀ I' H' cls d, mg e.cls = some cls → Env K I' H' [] [] (some d :: ρ) (.im (XD.mk e.fs) :: Θ) → E cls (dOf d) H')
def MkG (C : Addr) (sp : Sp) (E : XK) (vs : List V) (H : Hp) (Q : VK) : Prop := ∀ x dx, H x = none → H dx = none → dx ≠ x → sp (.ref x :: vs) (upd (upd H dx (.own x)) x (.ins C dx [])) (fun v H2 => v = .non ∧ Q (.ref x) H2) E
theorem st_make {A : Type} [RepL τ] {cells : A → List Cell} {m : A → Res τ} {vs : List V} (a : A) {k : τ → Res ω} (E : Env K I H σ Γ ((vs.map some).reverse ++ ρ) ((cells a).reverse ++ Θ)) (hn : vs.length = n) (hc : (cells a).length = n) (hC : ClsAt K c C)
    (h : wp ((m a).bind k) P X) (hX : ∀ e, X e → XWish K mg W σ Γ ρ Θ e)
    (next : ∀ b I' H' v, Env K I' H' σ Γ (some v :: ρ) (.im (Ob.mk b : Ob c fs τ) :: Θ) → wp (k b) P X → Q v H') : MkG C (SpI K mg c fs n cells m) (WE W σ) vs H Q := by
  intro x dx hx hd ne
  have lr : (vs.map some).reverse.length = (cells a).reverse.length := by simp [hn, hc]
  have E0 : Env K I (upd (upd H dx (.own x)) x (.ins C dx [])) σ Γ (some (.ref x) :: ((vs.map some).reverse ++ ρ)) (.own (Obw.mk () : Obw c [] Unit) :: ((cells a).reverse ++ Θ)) := E.toStack (E.2.2.newB hx hd ne hC)
  have E1 : Env K I (upd (upd H dx (.own x)) x (.ins C dx [])) σ Γ (some (.ref x) :: ((vs.map some).reverse ++ ρ)) (.own (Obw.mk () : Obw c [] Unit) (some (.ref x)) :: ((cells a).reverse ++ Θ)) := (Env.pop E0).toStack (E0.unstack.repin fun w e => Option.some.inj e)
  have l2 := E.2.1
  have E2 : Env K I (upd (upd H dx (.own x)) x (.ins C dx [])) σ Γ (((V.ref x :: vs).map some).reverse ++ ρ) ((Cell.own (Obw.mk () : Obw c [] Unit) (some (.ref x)) :: cells a).reverse ++ Θ) := by
    refine E1.sperm (by simp only [List.length_append, List.length_reverse, List.length_map, List.length_cons] at l2 ⊢; omega) ?_
    have e1 : ((V.ref x :: vs).map some).reverse ++ ρ = (vs.map some).reverse ++ (some (.ref x) :: ρ) := by simp
    have e2 : (Cell.own (Obw.mk () : Obw c [] Unit) (some (.ref x)) :: cells a).reverse ++ Θ = (cells a).reverse ++ (Cell.own (Obw.mk () : Obw c [] Unit) (some (.ref x)) :: Θ) := by simp
    rw [e1, e2, List.zip_cons_cons, List.zip_append lr, List.zip_append lr, List.zip_cons_cons]
    exact List.perm_middle.symm
  have E3 := E2.enter (vs := (V.ref x :: vs).map some) (cs := Cell.own (Obw.mk () : Obw c [] Unit) (some (.ref x)) :: cells a) (by simp [hn, hc])
  refine ⟨by simp [hn], a, I, _, _, E3, ?_⟩
  refine wp_mono (wp_bind.mp h) (fun b q I' H' v E' => ?_) fun e x I' H' cls d hm E' => hX e x I' H' cls d hm (E'.leave E.1)
  have ev : v = V.non := (E'.topS).1
  refine ⟨ev, ?_⟩
  have E'2 : EnvL K I' H' ((some (.ref x), .own (Obw.mk b : Obw c fs τ) (some (.ref x))) :: ((some v :: (σ ++ ρ)).zip (.im () :: (Γ ++ Θ)))) := E'.2.2
  obtain ⟨p, dx', C', vs', e1, _, _, _, _, _, _, fz⟩ := E'2.ownB
  have lz := E'.2.1
  simp only [List.length_cons, List.length_append] at lz
  rw [List.zip_cons_cons] at fz
  have fz2 := (fz.perm (List.Perm.swap _ _ _)).tail
  have E4 : Env K (upd I' p (.ins C' dx' (fs.zip vs'))) H' [] [] (some (.ref x) :: (σ ++ ρ)) (.im (Ob.mk b : Ob c fs τ) :: (Γ ++ Θ)) := ⟨rfl, by simp only [List.length_cons, List.length_append]; omega, fz2⟩
  exact next b _ H' _ (E4.leave E.1) q
/-! o.m(..) -/
def MthG (m : Str) (C : Addr) (x : V) (H : Hp) (R : Prop) : Prop := ∃ a dx fs, x = .ref a ∧ H a = some (.ins C dx fs) ∧ fs.lookup m = none ∧ R
theorem st_methA [RepL τ] {x : Ob c fs τ} {R : Prop} (E : Env K I H σ Γ (some v :: ρ) (.im x :: Θ)) (ko : KO K c C) (hn : fs.contains m = false) (next : R) : ∃ a dx fs', v = V.ref a ∧ H a = some (HO.ins C dx fs') ∧ fs'.lookup m = none ∧ R := by
  obtain ⟨p, dx, vs, rfl, hl, hp, r⟩ := obj_at E.topR E.same ko
  exact ⟨p, dx, _, rfl, hp, lookup_none hn, next⟩
theorem st_propA [RepL τ] {x : Ob c fs τ} {R : Addr → Prop} (E : Env K I H σ Γ (some v :: ρ) (.im x :: Θ)) (ko : KO K c C) (next : ∀ a, v = .ref a → R a) : ∃ a dx fs', v = V.ref a ∧ H a = some (HO.ins C dx fs') ∧ R a := by
  obtain ⟨p, dx, vs, rfl, hl, hp, r⟩ := obj_at E.topR E.same ko
  exact ⟨p, dx, _, rfl, hp, next p rfl⟩
end
def tMethS (C : Addr) (m : Str) (sp : Sp) (E : L2.St → XK) (ta : TE) (t : TA) : TE := fun σ H Q => ta σ H fun x H1 => ∃ a dx fs, x = .ref a ∧ H1 a = some (.ins C dx fs) ∧ fs.lookup m = none ∧ t σ H1 fun vs H2 => sp (x :: vs) H2 Q (E σ)
def tMakeS (C : Addr) (sp : Sp) (E : L2.St → XK) (t : TA) : TE := fun σ H Q => t σ H fun vs H1 => MkG C sp (E σ) vs H1 Q
section
variable {X : Cx} {CX : CXT} {k : Nat} {f C : Addr} {fd : FuncData} {ps : List Str} {sp : Sp} {E : L2.St → XK} {x m : Str} {p pos apos : Pos} {e o : Expr} {es : List Expr} {ta : TE} {t : TA} {σ : L2.St} {H : Hp} {Q : VK}
theorem uMethS (h : ta σ H fun x H1 => ∃ a dx fs, x = .ref a ∧ H1 a = some (.ins C dx fs) ∧ fs.lookup m = none ∧ t σ H1 fun vs H2 => sp (x :: vs) H2 Q (E σ)) : tMethS C m sp E ta t σ H Q := h
theorem uMakeS (h : t σ H fun vs H1 => MkG C sp (E σ) vs H1 Q) : tMakeS C sp E t σ H Q := h
theorem pe_methS' {pl : Sem Bool} (he : PE X o ta) (c : Cls X.K C) (hm : Meth X.K C m f) (F : FnOk X.prog X.w X.K X.mg X.base CX k f fd ps sp) (hr : Room k X.A) (hb : Binds X.K fd ps []) (hx : ∀ σ, PassesAt CX X σ (E σ)) (ha : PA X (e :: es) t)
    (hst : starEach (e :: es) X.env = (false, eval e X.env) :: starEach es X.env := by rfl) (hpl : (backTo pos (starEach es X.env)).any (·.1) = false := by rfl)
    (ht : eval (.Call (.Attribute o m apos) (e :: es) [] pos) X.env = (do
      let ov ← eval o X.env
      standAt apos.atName
      let (f, first) ← holding [ov] (getMethod ov m pl)
      callWith pos f first (backTo pos (starEach (e :: es) X.env)) (backToKw pos (keywordEach [] X.env))) := by rfl) :
    PE X (.Call (.Attribute o m apos) (e :: es) [] pos) (tMethS C m sp E ta t) := by
  refine ⟨fun pins s σ H Q I h => ?_⟩
  refine PySem.W.methodCall_KW (pl := pl) (thn (he.run pins s σ H _ I h) fun u s1 ⟨x, H1, I1, rx, a, dx, fs, ex, ea, l, q⟩ => ?_) ht
  subst ex
  obtain rfl : u = Value.ref a := rx
  refine getmeth_ok I1 ea c hm l ?_
  refine PySem.W.callWith_K (first := [.ref a]) (h₀ := X.base) I.ok.mod.kin hm.kp (thn (ha.run pos pins s1 σ H1 _ I1 q) fun us s2 ⟨vs, H2, I2, r, q2⟩ => ⟨I2.kIn, ?_⟩) hst hpl
  exact run_fnS (us := .ref a :: us) (vs := .ref a :: vs) F hr hb (hx σ) I2 (.cons rfl r) q2
theorem pe_methS0' {pl : Sem Bool} (he : PE X o ta) (c : Cls X.K C) (hm : Meth X.K C m f) (F : FnOk X.prog X.w X.K X.mg X.base CX k f fd ps sp) (hr : Room k X.A) (hb : Binds X.K fd ps []) (hx : ∀ σ, PassesAt CX X σ (E σ))
    (ht : eval (.Call (.Attribute o m apos) [] [] pos) X.env = (do
      let ov ← eval o X.env
      standAt apos.atName
      let (f, first) ← holding [ov] (getMethod ov m pl)
      callWith pos f first (backTo pos (starEach [] X.env)) (backToKw pos (keywordEach [] X.env))) := by rfl) :
    PE X (.Call (.Attribute o m apos) [] [] pos) (tMethS C m sp E ta tNil) := by
  refine ⟨fun pins s σ H Q I h => ?_⟩
  refine PySem.W.methodCall_KW (pl := pl) (thn (he.run pins s σ H _ I h) fun u s1 ⟨x, H1, I1, rx, a, dx, fs, ex, ea, l, q⟩ => ?_) ht
  subst ex
  obtain rfl : u = Value.ref a := rx
  refine getmeth_ok I1 ea c hm l ?_
  exact PySem.W.callWith_K0 (first := [.ref a]) I1.kIn hm.kp (run_fnS (us := [.ref a]) (vs := [.ref a]) F hr hb (hx σ) I1 (.cons rfl .nil) q)
/-- the new object is made -/
theorem run_makeS {pins : List (Addr × PySem.Obj)} {s : Shared} {us : List Value} {vs : List V} (M : Mk X.K C f) (F : FnOk X.prog X.w X.K X.mg X.base CX k f fd ps sp) (hr : Room (k + 1) X.A) (hb : Binds X.K fd ps []) (hx : PassesAt CX X σ (E σ)) (I : Inv X pins σ H s) (r : Vals vs us)
    (h : MkG C sp (E σ) vs H Q) : wpAny (model X.prog X.w) X.A (call (.ref C) us) (EP X pins σ Q) X.xe s := by
  have hq := h (s.heap.objs.size + 1) s.heap.objs.size (I.hok.fresh (Nat.le_succ _)) (I.hok.fresh (Nat.le_refl _)) (Nat.ne_of_lt (Nat.lt_succ_self _))
  have I2 := Inv.made (C := C) I
  have r2 : Vals (V.ref (s.heap.objs.size + 1) :: vs) (Value.ref (s.heap.objs.size + 1) :: us) := .cons rfl r
  have hl : (Value.ref (s.heap.objs.size + 1) :: us ++ []).length = ps.length := by
    have e := r2.length
    rw [F.len _ _ _ _ hq] at e
    rw [List.append_nil]
    exact e.symm
  have b2 := hb _ (Value.ref (s.heap.objs.size + 1) :: us) I2.kIn hl
  rw [List.append_nil] at b2
  refine wpAny_call (make_map (f := f) I.kIn M.makes M.init (beq_iff_eq.mp M.fn) (codeAny_mono (F.run _ X.stack _ _ ⟨Value.ref (s.heap.objs.size + 1) :: us, []⟩ (Value.ref (s.heap.objs.size + 1) :: us) _ _ (E σ) (hr.make C us [])
    (I2.env0.make C us []) b2 r2 hq) fun r s' hq' => ?_))
  cases r with
  | error e => exact hx pins _ _ e s' I2 hq'
  | ok fl =>
    cases fl with
    | ret u =>
      obtain ⟨v, H', I3, rv, ev, q3⟩ := I2.after hq'
      subst ev
      exact ⟨rv, ⟨V.ref (s.heap.objs.size + 1), H', I3, rfl, q3⟩⟩
    | next => exact False.elim hq'
    | brk => exact False.elim hq'
    | cont => exact False.elim hq'
theorem pe_makeS (mk_ : Mk X.K C f) (F : FnOk X.prog X.w X.K X.mg X.base CX k f fd ps sp) (hr : Room (k + 1) X.A) (hg : Gl X x) (hm : X.mg x = some (.ref C)) (hb : Binds X.K fd ps []) (hx : ∀ σ, PassesAt CX X σ (E σ))
    (ha : PA X (e :: es) t) (hdb : (x == ("__debug__" : Str)) = false := by decide) (he : starEach (e :: es) X.env = (false, eval e X.env) :: starEach es X.env := by rfl) (hpl : (backTo pos (starEach es X.env)).any (·.1) = false := by rfl) :
    PE X (.Call (.Name x p) (e :: es) [] pos) (tMakeS C sp E t) := by
  refine ⟨fun pins s σ H Q I h => ?_⟩
  refine wpAny_Call_Name_kw (ld_glob I hg hm ?_ hdb)
  refine PySem.W.callWith_K (h₀ := X.base) I.ok.mod.kin mk_.kp (thn (ha.run pos pins s σ H _ I h) fun us s1 ⟨vs, H1, I1, r, q⟩ => ⟨I1.kIn, ?_⟩) he hpl
  exact run_makeS mk_ F hr hb (hx σ) I1 r q
end
end M
/-! operators of own classes by their own defs; static methods; properties -/
namespace NeK
open PySem PySem.W PySem.Calls PyProof.Rows
section
variable {prog : Program} {w : World} {A : Around} {E : Value → Shared → Prop} {s : Shared} {K : Frag} {x C f L : Addr} {ox : Obj} {od : Option Obj} {name : Str} {b tb : Value} {h₀ : Heap} {m : Str → Option Value}
theorem ifBound_objNe {M : Model} {args : List Value} {Q : Option Value → Shared → Prop} (X : K.In s.heap) (I : InstAt s.heap x ox C od) (hs : findIn K (.ref C) "__ne__" = some (some (.builtin "object.__ne__")))
    (h : wpAny M A (call (.builtin "object.__ne__") (.ref x :: args)) (fun v => Q (some v)) E s) : wpAny M A (callSpecialIfBound? (.ref x) "__ne__" args) Q E s := by
  simp only [callSpecialIfBound?, bindSpecialIfBound?]
  refine wpAny_holding (wpAny_bind (wpAny_bind (wpAny_bind (I.type.here ((looks_findIn X hs).here ?_)))))
  refine wpAny_bind (wpAny_askSetting (wpAny_ite ?_))
  have fin : wpAny M A (call (.builtin "object.__ne__") ([.ref x] ++ args) >>= fun v => pure (some v)) Q E s := wpAny_bind (wpAny_mono h (fun v s' h' => wpAny_pure h') fun _ _ h' => h')
  split
  · exact wpAny_bind (wpAny_of_eq (F.cmp_object.ne.bind _) (wpAny_pure (by exact fin)))
  · exact wpAny_tryCatch (wpAny_bind (wpAny_of_eq (F.cmp_object.ne.bind _) (wpAny_pure (by exact fin))))
/-- `object.__ne__` asks the own `__eq__` -/
theorem entry_ne {Q : Fin → Shared → Prop} (hu : A.units < cLine) (X : K.In s.heap) (I : InstAt s.heap x ox C od) (hs : findIn K (.ref C) "__eq__" = some (some (.ref f))) (hf : isFn K (.ref f) = true)
    (h : wpAny (model prog w) A (call (.ref f) [.ref x, b]) (fun v s' => ∃ r, v = .bool r ∧ Q (.done (.ret (.bool (!r)))) s') E s) : wpAny (model prog w) A (Builtin.«object.__ne__» ⟨[.ref x, b], []⟩) Q E s := by
  unfold Builtin.«object.__ne__»
  repeat (first
    | with_reducible refine wpAny_cRoomFor hu ?_
    | (refine wpAny_bind (m := callSpecialIfBound? (.ref x) (Str.ofString "__eq__") [b])
        (ifBound_K X I hs hf (wpAny_mono h (fun r s' hr => by
          obtain ⟨b, rfl, hq⟩ := hr
          repeat (first | exact hq | exact wpAny_pure hq | exact wpAny_truthy_bool hq | (refine wpAny_bind (m := truthy (.bool _)) (wpAny_truthy_bool ?_)) | wp_step)) fun _ _ e => e)))
    | wp_step)
/-- x != b by the own `__eq__`, no `__ne__` of its own -/
theorem ne_K {Q : Value → Shared → Prop} (hu : A.units + 1 < cLine) (F0 : Fr h₀ L s.heap m) (X₀ : K.In h₀) (I : InstAt s.heap x ox C od) (hb : Looks (model prog w) s.heap (typeOf b) tb) (hn : notFirst K C tb = true) (hm : mroIn K C (.type "object") = some true)
    (hne : findIn K (.ref C) "__ne__" = some (some (.builtin "object.__ne__"))) (hs : findIn K (.ref C) "__eq__" = some (some (.ref f))) (hf : isFn K (.ref f) = true)
    (h : wpAny (model prog w) A.in1 (call (.ref f) [.ref x, b]) (fun v s' => ∃ r, v = .bool r ∧ Q (.bool (!r)) s') E s) : wpAny (model prog w) A (richCompare .NotEq (.ref x) b) Q E s := by
  have X := X₀.keeps F0.keep
  have one : wpAny (model prog w) A (tryCompare (.ref x) "__ne__" b) (fun r s' => ∃ v, r = some v ∧ Q v s') E s := by
    unfold tryCompare
    refine wpAny_bind (ifBound_objNe X I hne (wpAny_call (codeAny_call_builtin F.cmp_object.ne.plain F.cmpEntry_ne (PySem.W.check_slot F.cmpKind_ne F.cmpSplit_ne (I.type.andThen (PySem.W.looks_mroIn X hm)) (F.cmpArgs_ne _ _)
      (entry_ne (A := A.in1) hu X I hs hf (wpAny_mono h (fun v s' hv => ?_) fun _ _ e => e))))))
    obtain ⟨r, rfl, q⟩ := hv
    first | exact ⟨r, rfl, wpAny_pure ⟨_, rfl, q⟩⟩ | exact ⟨r, rfl, wpAny_pure (wpAny_pure ⟨_, rfl, q⟩)⟩
  unfold richCompare
  simp only [oneThing_ref]
  refine wpAny_holding (wpAny_bind (wpAny_cRoomFor (Nat.lt_of_succ_lt hu) ?_))
  refine wpAny_bind (I.type.here (wpAny_bind (hb.here ?_)))
  rw [cmpInfo_NotEq]
  dsimp only
  split
  · rename_i q
    have e : subIn K tb (.ref C) = some false := by
      rcases Bool.or_eq_true_iff.mp hn with e | e
      · rw [beq_iff_eq.mp e] at q; simp at q
      · exact beq_iff_eq.mp e
    refine wpAny_bind ((looks_subIn X e).here ?_)
    simp only [Bool.false_eq_true, if_false]
    refine wpAny_bind (wpAny_mono one (fun r s' z => ?_) fun _ _ e => e)
    obtain ⟨v, rfl, hq⟩ := z
    exact wpAny_pure hq
  · refine wpAny_bind (wpAny_pure ?_)
    simp only [Bool.false_eq_true, if_false]
    refine wpAny_bind (wpAny_mono one (fun r s' z => ?_) fun _ _ e => e)
    obtain ⟨v, rfl, hq⟩ := z
    exact wpAny_pure hq
end
end NeK

namespace M
open PySem PySem.Spec PyProof PyProof.Rows L2
/-- what type(y) says -/
inductive LkV (K : PySem.W.Frag) (H : Hp) : V → Value → Prop where
  | non : LkV K H .non (.type "NoneType")
  | bl (x : Bool) : LkV K H (.bl x) (.type "bool")
  | int (i : Int) : LkV K H (.int i) (.type "int")
  | str (x : Str) : LkV K H (.str x) (.type "str")
  | lst {a : Addr} {xs : List V} (e : H a = some (.lst xs)) : LkV K H (.ref a) (.type "list")
  | tup {a : Addr} {xs : List V} (e : SqT K H a xs) : LkV K H (.ref a) (.type "tuple")
  | ins {a C dx : Addr} {fs : List (Str × V)} (e : H a = some (.ins C dx fs)) : LkV K H (.ref a) (.ref C)
/-- x of the class at C, y of any type that does not go first -/
def CmpG (K : PySem.W.Frag) (C : Addr) (x y : V) (H : Hp) (R : Prop) : Prop := ∃ a dx fs t, x = .ref a ∧ H a = some (.ins C dx fs) ∧ LkV K H y t ∧ PySem.W.notFirst K C t = true ∧ R
def SmG (C : Addr) (x y : V) (H : Hp) (R : Prop) : Prop := ∃ a b dx dy fs gs, x = .ref a ∧ y = .ref b ∧ H a = some (.ins C dx fs) ∧ H b = some (.ins C dy gs) ∧ R
def tBinS (C : Addr) (sp : Sp) (E : L2.St → XK) (ta tb : TE) : TE := fun σ H Q => ta σ H fun x H1 => tb σ H1 fun y H2 => SmG C x y H2 (sp [x, y] H2 Q (E σ))
def tEqS (K : PySem.W.Frag) (C : Addr) (sp : Sp) (E : L2.St → XK) (ta tb : TE) : TE := fun σ H Q => ta σ H fun x H1 => tb σ H1 fun y H2 => CmpG K C x y H2 (sp [x, y] H2 Q (E σ))
def tNeS (K : PySem.W.Frag) (C : Addr) (sp : Sp) (E : L2.St → XK) (ta tb : TE) : TE := fun σ H Q => ta σ H fun x H1 => tb σ H1 fun y H2 => CmpG K C x y H2 (sp [x, y] H2 (fun v H3 => ∃ r, v = .bl r ∧ Q (.bl (!r)) H3) (E σ))
/-- an operator of the class: a def of its own -/
structure BinC (K : PySem.W.Frag) (C : Addr) (op : Str) (f : Addr) : Prop where
  sf : PySem.W.selfFirst K C = true
  at_ : PySem.W.findIn K (.ref C) op = some (some (.ref f))
  fn : PySem.W.isFn K (.ref f) = true
structure NeC (K : PySem.W.Frag) (C : Addr) : Prop where
  mr : PySem.W.mroIn K C (.type "object") = some true
  ne : PySem.W.findIn K (.ref C) "__ne__" = some (some (.builtin "object.__ne__"))
/-- a static method: its record at p, its def at g -/
structure SMet (K : PySem.W.Frag) (C : Addr) (m : Str) (g : Addr) : Prop where
  rd : PySem.W.readsIn K C (.type "type") = true
  ty : PySem.W.typeIn K (.ref C) = some (.type "type")
  ga : PySem.W.specialIn K (.ref C) "__getattribute__" = some (some (.builtin "type.__getattribute__"))
  at_ : ∃ p, PySem.W.findCls K (.ref C) (.type "type") m = some (.get (.builtin "staticmethod.__get__") (.ref p) .none (.ref C)) ∧ ∃ rest, PySem.W.recIn K p "staticmethod" = some (.ref g :: rest)
  kp : PySem.W.keepIn K (.ref g) = true
def tSMethS (sp : Sp) (E : L2.St → XK) (ta : TE) (C : Addr) (t : TA) : TE := fun σ H Q => ta σ H fun x H1 => x = .ref C ∧ t σ H1 fun vs H2 => sp vs H2 Q (E σ)
section
variable {X : Cx} {CX : CXT} {k : Nat} {f C : Addr} {fd : FuncData} {ps : List Str} {sp : Sp} {E : L2.St → XK} {x m : Str} {p pos apos : Pos} {a b e o : Expr} {es : List Expr} {ta tb : TE} {t : TA} {σ : L2.St} {H : Hp} {Q : VK}
theorem cb_of {pins : List (Addr × PySem.Obj)} {u : Value} {s' : Shared} (h : EP X pins σ Q u s') : PySem.W.CmpBack (EP X pins σ Q) u s' := by
  obtain ⟨v, H', I, r, q⟩ := h
  cases u with
  | notImplemented =>
    cases v <;> first | exact (nomatch r) | exact r.elim | (obtain ⟨_, r⟩ := r; exact (nomatch r)) | (simp [RelV] at r)
  | _ => exact ⟨v, H', I, r, q⟩
theorem LkV.looks {M : Model} {pins : List (Addr × PySem.Obj)} {s : Shared} {y : V} {u t : Value} (I : Inv X pins σ H s) (r : RelV y u) (l : LkV X.K H y t) : PySem.W.Looks M s.heap (typeOf u) t := by
  cases l with
  | non => cases (show u = Value.none from r); exact PySem.W.Looks.of_pure rfl
  | bl y => cases (show u = Value.bool y from r); exact PySem.W.Looks.of_pure rfl
  | int i => obtain ⟨t, q⟩ := (show ∃ t, u = Value.int i t from r); cases q; exact PySem.W.Looks.of_pure rfl
  | str y => obtain ⟨t, q⟩ := (show ∃ t, u = Value.str y t from r); cases q; exact PySem.W.Looks.of_pure rfl
  | @lst a xs ea =>
    cases (show u = Value.ref a from r)
    obtain ⟨_, _, n, _, h1⟩ := (show ObjOk X.prog X.w H s.heap a (.lst xs) from I.hok a _ ea)
    exact (PySem.W.Looks.ld h1).andThen .now
  | @tup a xs ea =>
    cases (show u = Value.ref a from r)
    obtain ⟨its, _, ⟨o, h1, h2, _⟩, _⟩ := I.tuple ea
    exact h2 ▸ (PySem.W.Looks.ld h1).andThen .now
  | @ins a C dx fs ea =>
    cases (show u = Value.ref a from r)
    obtain ⟨mA, O, _⟩ := ins_get I.hok ea
    obtain ⟨od, J, _⟩ := O.look
    exact J.type
theorem run_fnS1 {pins : List (Addr × PySem.Obj)} {s : Shared} {us : List Value} {vs : List V} (F : FnOk X.prog X.w X.K X.mg X.base CX k f fd ps sp) (hr : Room (k + 1) X.A) (hb : Binds X.K fd ps []) (hx : PassesAt CX X σ (E σ))
    (I : Inv X pins σ H s) (r : Vals vs us) (h : sp vs H Q (E σ)) : wpAny (model X.prog X.w) X.A.in1 (call (.ref f) us) (EP X pins σ Q) X.xe s := by
  have hl : us.length = ps.length := by rw [← r.length]; exact F.len _ _ _ _ h
  have b := hb s us I.kIn (by rw [List.append_nil]; exact hl)
  rw [List.append_nil] at b
  refine wpAny_call (codeAny_mono (F.run X.A.in1 X.stack s H ⟨us, []⟩ us vs Q (E σ) hr.in1 I.env0.in1 b r h) fun r s' hq => ?_)
  cases r with
  | error e => exact hx pins H s e s' I hq
  | ok fl =>
    cases fl with
    | ret u => exact I.after hq
    | next => exact False.elim hq
    | brk => exact False.elim hq
    | cont => exact False.elim hq
theorem uBinS (h : ta σ H fun x H1 => tb σ H1 fun y H2 => SmG C x y H2 (sp [x, y] H2 Q (E σ))) : tBinS C sp E ta tb σ H Q := h
theorem uEqS (h : ta σ H fun x H1 => tb σ H1 fun y H2 => CmpG X.K C x y H2 (sp [x, y] H2 Q (E σ))) : tEqS X.K C sp E ta tb σ H Q := h
theorem uSMethS (h : ta σ H fun x H1 => x = .ref C ∧ t σ H1 fun vs H2 => sp vs H2 Q (E σ)) : tSMethS sp E ta C t σ H Q := h
theorem pe_binS {op : Operator} (ha : PE X a ta) (hb : PE X b tb) (M : BinC X.K C (PySem.dunder op.info.2) f) (F : FnOk X.prog X.w X.K X.mg X.base CX k f fd ps sp) (hr : Room k X.A) (hbd : Binds X.K fd ps []) (hx : ∀ σ, PassesAt CX X σ (E σ)) :
    PE X (.BinOp a op b pos) (tBinS C sp E ta tb) := by
  refine ⟨fun pins s σ H Q I h => ?_⟩
  refine wpAny_BinOp (binT ha hb I h fun v u s2 x y H2 I2 rx ry q => ?_)
  obtain ⟨a, b, dx, dy, fs, gs, rfl, rfl, h1, h2, q⟩ := q
  obtain rfl : v = Value.ref a := rx
  obtain rfl : u = Value.ref b := ry
  obtain ⟨mA, O, _⟩ := ins_get I2.hok h1
  obtain ⟨od, J, _⟩ := O.look
  obtain ⟨m, hF⟩ := I2.fr
  refine PySem.W.binop_K hF I2.ok.mod.kin J ((LkV.ins h2).looks I2 (show RelV (.ref b) (.ref b) from rfl)) M.sf M.at_ M.fn (thn (run_fnS (us := [.ref a, .ref b]) (vs := [.ref a, .ref b]) F hr hbd (hx σ) I2 (.cons rfl (.cons rfl .nil)) q) fun u s' z => cb_of z)
theorem run_eqS {pins : List (Addr × PySem.Obj)} {s : Shared} {x y : V} {v u : Value} (I : Inv X pins σ H s) (rx : RelV x v) (ry : RelV y u) (M : BinC X.K C "__eq__" f) (F : FnOk X.prog X.w X.K X.mg X.base CX k f fd ps sp) (hr : Room k X.A) (hbd : Binds X.K fd ps []) (hx : PassesAt CX X σ (E σ))
    (h : CmpG X.K C x y H (sp [x, y] H Q (E σ))) : wpAny (model X.prog X.w) X.A (compareOp .Eq v u) (EP X pins σ Q) X.xe s := by
  obtain ⟨a, dx, fs, t, rfl, h1, l, n, q⟩ := h
  obtain rfl : v = Value.ref a := rx
  obtain ⟨mA, O, _⟩ := ins_get I.hok h1
  obtain ⟨od, J, _⟩ := O.look
  obtain ⟨m, hF⟩ := I.fr
  show wpAny (model X.prog X.w) X.A (richCompare .Eq (.ref a) u) (EP X pins σ Q) X.xe s
  exact PySem.W.cmp_K (op := .Eq) hr.units0 hF I.ok.mod.kin J (l.looks I ry) n M.at_ M.fn (thn (run_fnS F hr hbd hx I (.cons (show RelV (.ref a) (.ref a) from rfl) (.cons ry .nil)) q) fun u s' z => cb_of z)
theorem run_neS {pins : List (Addr × PySem.Obj)} {s : Shared} {x y : V} {v u : Value} (I : Inv X pins σ H s) (rx : RelV x v) (ry : RelV y u) (M : BinC X.K C "__eq__" f) (N : NeC X.K C) (F : FnOk X.prog X.w X.K X.mg X.base CX k f fd ps sp) (hr : Room (k + 1) X.A) (hbd : Binds X.K fd ps []) (hx : PassesAt CX X σ (E σ))
    (h : CmpG X.K C x y H (sp [x, y] H (fun v H3 => ∃ r, v = .bl r ∧ Q (.bl (!r)) H3) (E σ))) : wpAny (model X.prog X.w) X.A (compareOp .NotEq v u) (EP X pins σ Q) X.xe s := by
  obtain ⟨a, dx, fs, t, rfl, h1, l, n, q⟩ := h
  obtain rfl : v = Value.ref a := rx
  obtain ⟨mA, O, _⟩ := ins_get I.hok h1
  obtain ⟨od, J, _⟩ := O.look
  obtain ⟨m, hF⟩ := I.fr
  show wpAny (model X.prog X.w) X.A (richCompare .NotEq (.ref a) u) (EP X pins σ Q) X.xe s
  refine NeK.ne_K (Nat.lt_of_le_of_lt (by omega) hr.units) hF I.ok.mod.kin J (l.looks I ry) n N.mr N.ne M.at_ M.fn (thn (run_fnS1 F hr hbd hx I (.cons (show RelV (.ref a) (.ref a) from rfl) (.cons ry .nil)) q) fun u s' z => ?_)
  obtain ⟨v, H', I', r, b, e, q'⟩ := z
  subst e
  exact ⟨b, r, .bl (!b), H', I', rfl, q'⟩
theorem pe_eqS (ha : PE X a ta) (hb : PE X b tb) (M : BinC X.K C "__eq__" f) (F : FnOk X.prog X.w X.K X.mg X.base CX k f fd ps sp) (hr : Room k X.A) (hbd : Binds X.K fd ps []) (hx : ∀ σ, PassesAt CX X σ (E σ)) (hm : behindInMarks .Eq b = false) :
    PE X (.Compare a [.Eq] [b] pos) (tEqS X.K C sp E ta tb) := by
  refine ⟨fun pins s σ H Q I h => ?_⟩
  exact wpAny_Compare1 (binT ha hb I h fun v u s2 x y H2 I2 rx ry q => run_eqS I2 rx ry M F hr hbd (hx σ) q) hm
theorem pe_neS (ha : PE X a ta) (hb : PE X b tb) (M : BinC X.K C "__eq__" f) (N : NeC X.K C) (F : FnOk X.prog X.w X.K X.mg X.base CX k f fd ps sp) (hr : Room (k + 1) X.A) (hbd : Binds X.K fd ps []) (hx : ∀ σ, PassesAt CX X σ (E σ)) (hm : behindInMarks .NotEq b = false) :
    PE X (.Compare a [.NotEq] [b] pos) (tNeS X.K C sp E ta tb) := by
  refine ⟨fun pins s σ H Q I h => ?_⟩
  exact wpAny_Compare1 (binT ha hb I h fun v u s2 x y H2 I2 rx ry q => run_neS I2 rx ry M N F hr hbd (hx σ) q) hm
theorem pt_eqS (ha : PE X a ta) (hb : PE X b tb) (M : BinC X.K C "__eq__" f) (F : FnOk X.prog X.w X.K X.mg X.base CX k f fd ps sp) (hr : Room k X.A) (hbd : Binds X.K fd ps []) (hx : ∀ σ, PassesAt CX X σ (E σ)) (hm : behindInMarks .Eq b = false) :
    PT X (.Compare a [.Eq] [b] pos) (tTest (tEqS X.K C sp E ta tb)) := by
  refine ⟨fun pins s σ H Q I h => ?_⟩
  refine wpAny_isTrue_Compare1 (thn (ha.run pins s σ H _ I h) fun v s1 ⟨x, H1, I1, r1, q1⟩ => thn (hb.run pins s1 σ H1 _ I1 q1) fun u s2 ⟨y, H2, I2, r2, q2⟩ =>
    thn (run_eqS I2 r1 r2 M F hr hbd (hx σ) q2) fun c s3 ⟨z, H3, I3, r3, k, e, q3⟩ => ?_) hm
  subst e
  cases r3
  exact wpAny_truthy_bool ⟨H3, I3, q3⟩
theorem pt_neS (ha : PE X a ta) (hb : PE X b tb) (M : BinC X.K C "__eq__" f) (N : NeC X.K C) (F : FnOk X.prog X.w X.K X.mg X.base CX k f fd ps sp) (hr : Room (k + 1) X.A) (hbd : Binds X.K fd ps []) (hx : ∀ σ, PassesAt CX X σ (E σ)) (hm : behindInMarks .NotEq b = false) :
    PT X (.Compare a [.NotEq] [b] pos) (tTest (tNeS X.K C sp E ta tb)) := by
  refine ⟨fun pins s σ H Q I h => ?_⟩
  refine wpAny_isTrue_Compare1 (thn (ha.run pins s σ H _ I h) fun v s1 ⟨x, H1, I1, r1, q1⟩ => thn (hb.run pins s1 σ H1 _ I1 q1) fun u s2 ⟨y, H2, I2, r2, q2⟩ =>
    thn (run_neS (Q := fun x H' => ∃ k, x = V.bl k ∧ Q k H') I2 r1 r2 M N F hr hbd (hx σ) q2) fun c s3 ⟨z, H3, I3, r3, k, e, q3⟩ => ?_) hm
  subst e
  cases r3
  exact wpAny_truthy_bool ⟨H3, I3, q3⟩
/-- C.m(..), a static method -/
theorem pe_smethS {pl : Sem Bool} (he : PE X o ta) (sm : SMet X.K C m f) (F : FnOk X.prog X.w X.K X.mg X.base CX k f fd ps sp) (hr : Room k X.A) (hb : Binds X.K fd ps []) (hx : ∀ σ, PassesAt CX X σ (E σ)) (ha : PA X (e :: es) t)
    (hst : starEach (e :: es) X.env = (false, eval e X.env) :: starEach es X.env := by rfl) (hpl : (backTo pos (starEach es X.env)).any (·.1) = false := by rfl)
    (ht : eval (.Call (.Attribute o m apos) (e :: es) [] pos) X.env = (do
      let ov ← eval o X.env
      standAt apos.atName
      let (f, first) ← holding [ov] (getMethod ov m pl)
      callWith pos f first (backTo pos (starEach (e :: es) X.env)) (backToKw pos (keywordEach [] X.env))) := by rfl) :
    PE X (.Call (.Attribute o m apos) (e :: es) [] pos) (tSMethS sp E ta C t) := by
  refine ⟨fun pins s σ H Q I h => ?_⟩
  refine PySem.W.methodCall_KW (pl := pl) (thn (he.run pins s σ H _ I h) fun u s1 ⟨x, H1, I1, rx, ex, q⟩ => ?_) ht
  subst ex
  obtain rfl : u = Value.ref C := rx
  obtain ⟨p, hp, rest, hq⟩ := sm.at_
  obtain ⟨m0, hF⟩ := I1.fr
  refine PySem.W.method_cls I1.kIn sm.ga (PySem.W.cls_sm hF I1.ok.mod.kin sm.ty sm.rd hp hq rfl ?_)
  have I2 := I1.tok (s1.toks + 1)
  refine PySem.W.callWith_K (first := []) (h₀ := X.base) I2.ok.mod.kin sm.kp (thn (ha.run pos pins _ σ H1 _ I2 q) fun us s2 ⟨vs, H2, I3, r, q2⟩ => ⟨I3.kIn, ?_⟩) hst hpl
  exact run_fnS F hr hb (hx σ) I3 r q2
end
section
variable {K : PySem.W.Frag} {mg : Str → Option Value} {I H I' H' : Hp} {σ σ' ρ ρ' : List (Option V)} {Γ Γ' Θ Θ' : List Cell} {i j n : Nat} {v v0 v1 v2 v3 : V} {te tv ta tb : TE} {Q : VK} {W : WX} {f c m : Str} {C : Addr} {fs : List Str} {D : Ends}
variable {pn : Option V} {ω : Type} {P : ω → Prop} {X : Exn → Prop} {α β τ τ' : Type} {sp : Sp} {E : L2.St → XK} {R : Prop} {b : Bool}
theorem uNeS (h : ta σ H fun x H1 => tb σ H1 fun y H2 => CmpG K C x y H2 (sp [x, y] H2 (fun v H3 => ∃ r, v = .bl r ∧ Q (.bl (!r)) H3) (E σ))) : tNeS K C sp E ta tb σ H Q := h
theorem uEqS' (h : ta σ H fun x H1 => tb σ H1 fun y H2 => CmpG K C x y H2 (sp [x, y] H2 Q (E σ))) : tEqS K C sp E ta tb σ H Q := h
theorem st_smG [RepL τ] {x y : Ob c fs τ} (E : Env K I H σ Γ (some v1 :: some v2 :: ρ) (.im y :: .im x :: Θ)) (ko : KO K c C) (next : R) : SmG C v2 v1 H R := by
  obtain ⟨p, dx, vs, rfl, _, hp, _⟩ := obj_at E.topR E.same ko
  obtain ⟨q, dy, ws, rfl, _, hq, _⟩ := obj_at E.pop.topR E.same ko
  exact ⟨q, p, dy, dx, _, _, rfl, rfl, hq, hp, next⟩
theorem nf_self : PySem.W.notFirst K C (.ref C) = true := by unfold PySem.W.notFirst; simp
theorem st_cmpG [RepL τ] {x y : Ob c fs τ} (E : Env K I H σ Γ (some v1 :: some v2 :: ρ) (.im y :: .im x :: Θ)) (ko : KO K c C) (next : R) : CmpG K C v2 v1 H R := by
  obtain ⟨p, dx, vs, rfl, _, hp, _⟩ := obj_at E.topR E.same ko
  obtain ⟨q, dy, ws, rfl, _, hq, _⟩ := obj_at E.pop.topR E.same ko
  exact ⟨q, dy, _, _, rfl, hq, .ins hp, nf_self, next⟩
theorem st_cmpT [RepL τ] [Rep α] {x : Ob c fs τ} {y : TupL α} (E : Env K I H σ Γ (some v1 :: some v2 :: ρ) (.im y :: .im x :: Θ)) (ko : KO K c C) (hn : PySem.W.notFirst K C (.type "tuple") = true) (next : R) : CmpG K C v2 v1 H R := by
  obtain ⟨q, dy, ws, rfl, _, hq, _⟩ := obj_at E.pop.topR E.same ko
  obtain ⟨a, vs, rfl, ha, _⟩ := E.topR
  exact ⟨q, dy, _, _, rfl, hq, .tup (same_seqT E.same ha), hn, next⟩
/-- the answer of a ==, turned round -/
theorem st_fldO [RepL τ] [Rep α] {x : Obw c fs τ} {y : α} (E : Env K I H σ Γ ρ Θ) (hΓ : Γ[j]? = some (.own x pn)) (ko : KO K c C) (na : NoAttr K C f) (hi : fs[i]? = some f) (hn : (fs.take i).contains f = false) (hf : ∀ {I vs}, RepL.rpl K I vs x.v → FlA K I vs i y)
    (next : ∀ v', Env K I H σ Γ (some v' :: ρ) (.im y :: Θ) → Q v' H) : tFld K (tVar j) f σ H Q := by
  obtain ⟨p, dx, C', vs, hs, hp, _, hC, hl, r, _⟩ := E.objAt hΓ
  have e := ClsAt.uniq hC ko.at_
  subst e
  obtain ⟨u, hu, ru⟩ := hf r
  exact ⟨_, hs, p, C', dx, _, u, rfl, hp, ko.cls, na, (lookup_zip hl hi hn).trans hu, next u (E.push ru)⟩
/-! isinstance of objects -/
structure OIs (K : PySem.W.Frag) (C : Addr) : Prop where
  ha : PySem.W.findIn K (.ref C) "__class__" = some (some (.builtin "object.__class__"))
  hn : PySem.W.specialIn K (.builtin "object.__class__") "__get__" = some (some (.builtin "getset_descriptor.__get__"))
  ht : PySem.W.takesIn K (.builtin "object.__class__") = some true
  hm : PySem.W.mroIn K C (.type "object") = some true
def tIsC (K : PySem.W.Frag) (i : Nat) (c : V) : TE := tCB (rIsi K) (tCons (tVar i) (tCons (tC c) tNil))
theorem hf_isOb [RepL τ] {x : Ob c fs τ} {cv : V} {cu : Value} (hΓ : Γ[i]? = some (.im x)) (ko : KO K c C) (oi : OIs K C) (hc : ClsV cv cu) (e : PySem.W.kitOne K (.ref C) cu = some b) : HF K (tIsC K i cv) Γ (.ok b) := .mk fun X Q E q => by
  obtain ⟨w, hs, r⟩ := E.get hΓ
  obtain ⟨p, dx, vs, rfl, hl, hp, r⟩ := obj_at r E.same ko
  exact ⟨_, hs, _, _, _, _, b, rfl, hc, .base (.ins hp ko.cls oi.ha oi.hn oi.ht oi.hm), e, q trivial⟩
end
end M
/-! parts of tuples (the whole, too), reversed tuples, extend, own lists lent to what answers with no list in it -/
namespace M
open PySem PySem.Spec PyProof PyProof.Rows L2
section
variable {K : PySem.W.Frag} {mg : Str → Option Value} {I I1 H I' H' : Hp} {σ σ' ρ : List (Option V)} {Γ Γ' Γ1 Θ : List Cell} {i j n : Nat} {v v0 v1 v2 : V} {te ti : TE} {t : TA} {Q : VK}
variable {ω : Type} {P : ω → Prop} {X : Exn → Prop} {α β τ : Type} {pn : Option V} {R : Prop}
theorem cutL_whole {xs : List α} {lo hi : Option Int} (h : HT.sIx xs.length 0 lo = 0 ∧ HT.sIx xs.length xs.length hi = xs.length) : cutL xs lo hi = xs := by
  unfold cutL
  rw [h.1, h.2]
  simp
theorem st_slTA [Rep α] {xs : TupL α} {lo hi : Option Int} (E : Env K I H σ Γ (some v :: ρ) (.im xs :: Θ))
    (next : ∀ I' H' v, Env K I' H' σ Γ (some v :: ρ) (.im (TupL.mk (cutL xs.l lo hi)) :: Θ) → Q v H') : rSlA K v lo hi H Q := by
  obtain ⟨a, vs, rfl, ha, pr⟩ := E.topR
  have hl : vs.length = xs.l.length := Paired.length pr
  refine ⟨a, vs, rfl, same_seqT E.same ha, fun c => ?_, fun c p hp => ?_⟩
  · rw [hl] at c
    have e : TupL.mk (cutL xs.l lo hi) = xs := by rw [cutL_whole c]
    exact next _ _ _ (by rw [e]; exact E)
  · obtain ⟨I', E'⟩ := (Env.pop E).pushT hp (cut_paired pr lo hi)
    exact next _ _ _ E'
def RvTG (K : PySem.W.Frag) (v : V) (H1 : Hp) (R : It → Hp → Prop) : Prop := ∃ (a : Addr) (xs : List V), v = .ref a ∧ ((SqL K H1 a xs ∧ R (Itv K a xs.length) H1) ∨ (SqT K H1 a xs ∧ R (RT.ItvT K a xs.length) H1))
theorem uRevA {R : It → Hp → Prop} (h : te σ H fun v H1 => RvTG K v H1 R) : RT.iRevA K te σ H R := h
theorem it_revT [Rep α] {R : It → Hp → Prop} {xs : TupL α} (E : Env K I H σ Γ (some v :: ρ) (.im xs :: Θ)) (next : ∀ J, Feeds K J xs.l.reverse [some v] [.im xs] → R J H) : RvTG K v H R := by
  obtain ⟨a, vs, e, hq, pr⟩ := E.topR
  subst e
  have ln : vs.length = xs.l.length := Paired.length pr
  refine ⟨a, vs, rfl, .inr ⟨same_seqT E.same hq, next _ ⟨rfl, fun {_ _} {_ _} {_ _} i E' hi => ?_, fun {I H} {_ _} {_ _} i x H' b E' hx hy => ?_, fun {_ _} {_ _} {_ _} i E' hi => ?_⟩⟩⟩
  · obtain ⟨b, ws, e, hq', pr'⟩ := E'.topR
    cases e
    have hl : ws.length = xs.l.length := Paired.length pr'
    rw [List.length_reverse] at hi
    exact ⟨by omega, ws, ws[vs.length - 1 - i]'(by omega), same_seqT E'.same hq', List.getElem?_eq_getElem (by omega)⟩
  · obtain ⟨b', ws, e, hq', pr'⟩ := E'.topR
    cases e
    obtain ⟨rfl, hy⟩ := hy
    have hl : ws.length = xs.l.length := Paired.length pr'
    have hi : i < xs.l.length := by
      have := (List.getElem?_eq_some_iff.mp hx).1
      rw [List.length_reverse] at this
      exact this
    rw [List.getElem?_reverse hi] at hx
    exact ⟨I, Grow.refl E'.same, paired_at pr' (hy _ (same_seqT E'.same hq')) (by rw [ln]; exact hx)⟩
  · rw [List.length_reverse] at hi
    show vs.length ≤ i
    omega
theorem st_ext [Rep α] {xs ys : List α} {k : List α → Res ω} {l : Addr} (E : Env K I H σ Γ (some v :: ρ) (.im ys :: Θ)) (hl : σ[i]? = some (some (.ref l))) (hΓ : Γ[i]? = some (.own xs pn)) (h : wp ((lCat xs ys).bind k) P X)
    (next : ∀ zs H', Env K I H' σ (Γ.set i (.own zs pn)) ρ Θ → wp (k zs) P X → Q .non H') : rExtend (.ref l) [v] H Q := by
  obtain ⟨p, vs, hs, hp, _, q, ch, _⟩ := E.ownAt hΓ
  have e : l = p := by
    rw [hl] at hs
    exact V.ref.inj (Option.some.inj (Option.some.inj hs))
  subst e
  obtain ⟨b, ws, e1, hb, pr⟩ := E.topR
  subst e1
  unfold lCat at h
  rw [clo_eq] at h
  by_cases hz : xs.length + ys.length ≤ line
  · rw [if_pos hz] at h
    have hlen : vs.length = xs.length := Paired.length q
    have hlen2 : ws.length = ys.length := Paired.length pr
    exact ⟨l, b, vs, ws, rfl, rfl, hp, E.same _ _ hb, by rw [hlen, hlen2, ← line_eq]; exact hz, next _ _ (ch (Grow.refl E.same) _ _ (paired_app q pr)).pop h⟩
  · rw [if_neg hz] at h
    exact h.elim
/-! the truth of isinstance(tuple, own class) -/
theorem hf_isTupC [Rep α] {c : Str} {b : Bool} {xs : TupL α} {cv : V} {cu : Value} (hΓ : Γ[i]? = some (.im xs)) (hc : ClsV cv cu) (e : PySem.W.kitOne K (.type "tuple") cu = some b) : HF K (tIsC K i cv) Γ (.ok b) := .mk fun X Q E q => by
  obtain ⟨v, hs, a, vs, e1, ha, _⟩ := E.get hΓ
  subst e1
  exact ⟨_, hs, _, _, _, _, b, rfl, hc, tyx_tup (same_seqT E.same ha), e, q trivial⟩
/-! a property -/
theorem uProp {C : Addr} {sp : Sp} {E : XK} (h : te σ H fun x H1 => ∃ a dx fs, x = .ref a ∧ H1 a = some (.ins C dx fs) ∧ sp [.ref a] H1 Q E) : tProp C sp [] E te σ H Q := h
theorem st_prop [RepL τ] {B : Type} {c : Str} {C : Addr} {fs : List Str} {x : Ob c fs τ} {m : Ob c fs τ → Res B} {oc : B → Cell} {EX : XK} {k : B → Res ω} (E : Env K I H σ Γ (some v :: ρ) (.im x :: Θ)) (ko : KO K c C) (h : wp ((noX (m x)).bind k) P X)
    (next : ∀ b I' H' v, Env K I' H' σ Γ (some v :: ρ) (oc b :: Θ) → wp (k b) P X → Q v H') : ∃ a dx fs', v = .ref a ∧ H a = some (.ins C dx fs') ∧ SpM K mg 1 (fun x => [.im x]) m oc [.ref a] H Q EX := by
  obtain ⟨p, dx, vs, rfl, hl, hp, r⟩ := obj_at E.topR E.same ko
  exact ⟨p, dx, _, rfl, hp, st_callX (vs := [.ref p]) x E rfl rfl h next⟩
end
/-! ### no list is needed to tell it -/
def NoLst (I I2 : Hp) : Prop := ∀ a u, I a = some u → (∃ vs, u = .lst vs) ∨ I2 a = some u
class NoL (β : Type) [Rep β] : Prop where
  nl : ∀ {K : PySem.W.Frag} {I I2 : Hp} {v : V} {b : β}, NoLst I I2 → Rep.rp K I v b → Rep.rp K I2 v b
class NoLL (τ : Type) [RepL τ] : Prop where
  nll : ∀ {K : PySem.W.Frag} {I I2 : Hp} {vs : List V} {b : τ}, NoLst I I2 → RepL.rpl K I vs b → RepL.rpl K I2 vs b
instance (priority := high) nolSca {β : Type} [Sca β] : NoL β := ⟨fun _ h => h⟩
theorem nol_seqT {K : PySem.W.Frag} {I I2 : Hp} {a : Addr} {xs : List V} (n : NoLst I I2) (h : SqT K I a xs) : SqT K I2 a xs := by
  rcases h with h | h
  · rcases h with h | ⟨o, h⟩
    · exact .inl (.inl ((n _ _ h).resolve_left fun ⟨_, e⟩ => nomatch e))
    · exact .inl (.inr ⟨o, (n _ _ h).resolve_left fun ⟨_, e⟩ => nomatch e⟩)
  · exact .inr h
instance nolTup {α : Type} [Rep α] [NoL α] : NoL (TupL α) := ⟨fun n ⟨a, vs, e1, h, p⟩ => ⟨a, vs, e1, nol_seqT n h, Paired.monoR (fun _ _ z => NoL.nl n z) p⟩⟩
instance nolPair {α β : Type} [Rep α] [Rep β] [NoL α] [NoL β] : NoL (α × β) := ⟨fun n ⟨a, v1, v2, e1, h, p, q⟩ => ⟨a, v1, v2, e1, nol_seqT n h, NoL.nl n p, NoL.nl n q⟩⟩
instance nollU : NoLL Unit := ⟨fun _ h => h⟩
instance nollC {α τ : Type} [Rep α] [RepL τ] [NoL α] [NoLL τ] : NoLL (α × τ) := ⟨fun n ⟨v, r, e, h1, h2⟩ => ⟨v, r, e, NoL.nl n h1, NoLL.nll n h2⟩⟩
instance nolOb {c : Str} {fs : List Str} {τ : Type} [RepL τ] [NoLL τ] : NoL (Ob c fs τ) := ⟨fun n h => by
  obtain ⟨p, dx, C, vs, e1, e2, e3, e4, e5⟩ := h
  exact ⟨p, dx, C, vs, e1, e2, e3, (n _ _ e4).resolve_left (fun ⟨_, e⟩ => nomatch e), NoLL.nll n e5⟩⟩
instance nolXD : NoL XD := ⟨fun {K I I2 v b} n h => by
  have h0 : XDr I v b.fs := h
  rcases h0 with h0 | ⟨d', ed, hx⟩
  · exact (show XDr I2 v b.fs from .inl h0)
  · exact (show XDr I2 v b.fs from .inr ⟨d', ed, (n _ _ hx).resolve_left fun ⟨_, e⟩ => nomatch e⟩)⟩
section
variable {K : PySem.W.Frag} {mg : Str → Option Value} {I I1 H I' H' : Hp} {σ σ' ρ : List (Option V)} {Γ Γ' Γ1 Θ : List Cell} {i j n : Nat} {v v0 v1 v2 : V}
theorem EnvL.snapN {es es1 : List Ent} (h : EnvL K I H es) (h1 : EnvL K I1 H es1) (s : LetS I I1) (hn : ∀ e ∈ es1, e.2 = noOwn e.2) : ∃ S : Snap, EnvL K I1 H ((some V.non, .own S) :: es1) ∧
    ∀ {β : Type} [Rep β] [NoL β] {b : β} {v : V} {I' H' : Hp} {o : Option V} {r : List Ent}, EnvL K I' H' ((some v, .im b) :: (o, .own S) :: r) → ∃ I2, EnvL K I2 H' ((some v, .im b) :: es) := by
  obtain ⟨sm, fs, e1, e2, e3⟩ := h
  obtain ⟨sm1, fs1, d1, d2, d3⟩ := h1
  have f0 := Ents.noOwn0 hn d1
  classical
  refine ⟨⟨I1, H, fs.flatten.filter fun a => decide (I1 a = none)⟩, ⟨sm1, _ :: fs1, ⟨⟨V.non, rfl, (fun _ z => nomatch z), rfl, Same.refl _, fun _ _ => rfl⟩, d1⟩, ?_, ?_⟩, fun {β _ _ b v I' H' o r} z => ?_⟩
  · rw [List.flatten_cons, f0, List.append_nil]
    exact e2.filter _
  · intro a ha
    rw [List.flatten_cons, f0, List.append_nil] at ha
    have ha := List.mem_filter.mp ha
    exact ⟨by simpa using ha.2, (e3 a ha.1).2⟩
  · obtain ⟨t1, gs, t2, t3, t4⟩ := z
    cases gs with
    | nil => exact t2.elim
    | cons g0 gs =>
      cases gs with
      | nil => exact t2.2.elim
      | cons g gs =>
        obtain ⟨⟨hg0, v0, ev0, hb⟩, ⟨w, _, _, q1, q2, q3⟩, _⟩ := t2
        have q1 : g = _ := q1
        have q2 : Same I1 I' := q2
        have hg0 : g0 = [] := hg0
        have ev0 : some v = some v0 := ev0
        cases ev0
        have hk : ∀ a ∈ fs.flatten, H' a = H a := fun a ha => by
          cases e : I1 a with
          | none => exact q3 a (by rw [q1]; exact List.mem_filter.mpr ⟨ha, by simpa using e⟩)
          | some u => rw [t1 a u (q2 a u e), sm1 a u e]
        let I2 : Hp := fun a => match I a with
          | some u => some u
          | none => match I' a with
            | some (.lst _) => none
            | u => u
        have sI : Same I I2 := fun a u e => by show (match I a with | some u => some u | none => _) = _; rw [e]
        have nI : NoLst I' I2 := fun a u e => by
          cases eI : I a with
          | some w =>
            have e2 := q2 a w (s.same a w eI)
            rw [e] at e2
            exact .inr (by show (match I a with | some u => some u | none => _) = _; rw [eI]; exact e2.symm)
          | none =>
            cases u with
            | lst vs => exact .inl ⟨vs, rfl⟩
            | _ => exact .inr (by show (match I a with | some u => some u | none => (match I' a with | some (.lst _) => none | u => u)) = _; rw [eI, e])
        have tI : ∀ a u, I2 a = some u → H' a = some u := fun a u e => by
          have e : (match I a with | some u => some u | none => (match I' a with | some (.lst _) => none | u => u)) = some u := e
          cases eI : I a with
          | some w =>
            rw [eI] at e
            rw [← e]
            exact t1 _ _ (q2 a w (s.same a w eI))
          | none =>
            rw [eI] at e
            cases eJ : I' a with
            | none => rw [eJ] at e; cases e
            | some w =>
              rw [eJ] at e
              cases w with
              | lst vs => exact (nomatch (show (none : Option HO) = some u from e))
              | _ => exact t1 _ _ (eJ.trans e)
        refine ⟨I2, tI, [] :: fs, ⟨⟨rfl, v, rfl, NoL.nl nI hb⟩, Ents.mono sI hk e1⟩, e2, fun a ha => ?_⟩
        have ha : a ∈ fs.flatten := ha
        refine ⟨?_, by rw [hk a ha]; exact (e3 a ha).2⟩
        show (match I a with | some u => some u | none => (match I' a with | some (.lst _) => none | u => u)) = _
        rw [(e3 a ha).1]
        cases e : I1 a with
        | none =>
          have : I' a = none := (t4 a (by
            rw [List.flatten_cons, List.flatten_cons]
            refine List.mem_append_right _ (List.mem_append_left _ ?_)
            rw [q1]; exact List.mem_filter.mpr ⟨ha, by simpa using e⟩)).1
          rw [this]
        | some u =>
          rcases s.lst a u e with h | ⟨vs, h⟩
          · rw [(e3 a ha).1] at h; cases h
          · have z1 := q2 a u e
            rw [h] at z1
            rw [z1]
theorem Env.borrowN (E : Env K I H σ Γ ρ Θ) (E1 : Env K I1 H σ Γ1 ρ Θ) (s : LetS I I1) : ∃ S : Snap, Env K I1 H σ (Γ1.map noOwn) (some V.non :: ρ) (.own S :: Θ.map noOwn) ∧
    (∀ {I' H' : Hp} {σ2 : List (Option V)} {Γ2 Θ2 : List Cell} {o : Option V} {ρ2 : List (Option V)} {d : V} {fs : List (Str × V)}, Env K I' H' σ2 Γ2 (some d :: o :: ρ2) (.im (XD.mk fs) :: .own S :: Θ2) → ∃ I2, Env K I2 H' σ Γ (some d :: ρ) (.im (XD.mk fs) :: Θ)) ∧
    (∀ {β : Type} [Rep β] [NoL β] {b : β} {I' H' : Hp} {v : V} {σ2 : List (Option V)} {Γ2 Θ2 : List Cell} {o : Option V} {ρ2 : List (Option V)}, Env K I' H' σ2 Γ2 (some v :: o :: ρ2) (.im b :: .own S :: Θ2) → ∃ I2, Env K I2 H' σ Γ (some v :: ρ) (.im b :: Θ)) := by
  have E2 := (E1.weak (wk_noOwn Γ1)).weakT (wk_noOwn Θ)
  obtain ⟨S, a, b⟩ := E.2.2.snapN E2.2.2 s fun e he => by
    rcases List.mem_append.mp he with he | he
    · exact zip_noOwn e he
    · exact zip_noOwn e he
  have bb : ∀ {β : Type} [Rep β] [NoL β] {b : β} {I' H' : Hp} {v : V} {σ2 : List (Option V)} {Γ2 Θ2 : List Cell} {o : Option V} {ρ2 : List (Option V)}, Env K I' H' σ2 Γ2 (some v :: o :: ρ2) (.im b :: .own S :: Θ2) → ∃ I2, Env K I2 H' σ Γ (some v :: ρ) (.im b :: Θ) := fun {β _ _ b' I' H' v σ2 Γ2 Θ2 o ρ2} Z => by
    have z0 : EnvL K I' H' ((some v, .im b') :: (o, .own S) :: (σ2.zip Γ2 ++ ρ2.zip Θ2)) := by
      refine Z.2.2.perm ?_
      show (σ2.zip Γ2 ++ ((some v, Cell.im b') :: (o, Cell.own S) :: ρ2.zip Θ2)).Perm _
      exact List.perm_middle.trans (List.Perm.cons _ List.perm_middle)
    obtain ⟨I2, z⟩ := b z0
    exact ⟨I2, E.1, by simp [E.2.1], z.perm List.perm_middle.symm⟩
  exact ⟨S, E2.toStack a, fun Z => bb Z, fun Z => bb Z⟩
end
end M
/-! objects made where nothing is raised; the answer of != -/
namespace M
open PySem PySem.Spec PyProof PyProof.Rows L2
section
variable {K : PySem.W.Frag} {mg : Str → Option Value} {I H I' H' : Hp} {σ σ' ρ ρ' : List (Option V)} {Γ Γ' Θ Θ' : List Cell} {i j n : Nat} {v v0 v1 v2 v3 : V} {te tv ta : TE} {Q : VK} {W : WX} {f c m : Str} {C : Addr} {fs : List Str} {D : Ends}
variable {pn : Option V} {ω : Type} {P : ω → Prop} {X : Exn → Prop} {α β τ τ' : Type}
theorem st_makeX {A : Type} [RepL τ] {cells : A → List Cell} {m : A → Res τ} {vs : List V} {EX : XK} (a : A) {k : τ → Res ω} (E : Env K I H σ Γ ((vs.map some).reverse ++ ρ) ((cells a).reverse ++ Θ)) (hn : vs.length = n) (hc : (cells a).length = n) (hC : ClsAt K c C)
    (h : wp ((noX (m a)).bind k) P X)
    (next : ∀ b I' H' v, Env K I' H' σ Γ (some v :: ρ) (.im (Ob.mk b : Ob c fs τ) :: Θ) → wp (k b) P X → Q v H') : MkG C (SpI K mg c fs n cells m) EX vs H Q := by
  have h2 := wp_noX_bind (Y := fun _ => False) h
  intro x dx hx hd ne
  have lr : (vs.map some).reverse.length = (cells a).reverse.length := by simp [hn, hc]
  have E0 : Env K I (upd (upd H dx (.own x)) x (.ins C dx [])) σ Γ (some (.ref x) :: ((vs.map some).reverse ++ ρ)) (.own (Obw.mk () : Obw c [] Unit) :: ((cells a).reverse ++ Θ)) := E.toStack (E.2.2.newB hx hd ne hC)
  have E1 : Env K I (upd (upd H dx (.own x)) x (.ins C dx [])) σ Γ (some (.ref x) :: ((vs.map some).reverse ++ ρ)) (.own (Obw.mk () : Obw c [] Unit) (some (.ref x)) :: ((cells a).reverse ++ Θ)) := (Env.pop E0).toStack (E0.unstack.repin fun w e => Option.some.inj e)
  have l2 := E.2.1
  have E2 : Env K I (upd (upd H dx (.own x)) x (.ins C dx [])) σ Γ (((V.ref x :: vs).map some).reverse ++ ρ) ((Cell.own (Obw.mk () : Obw c [] Unit) (some (.ref x)) :: cells a).reverse ++ Θ) := by
    refine E1.sperm (by simp only [List.length_append, List.length_reverse, List.length_map, List.length_cons] at l2 ⊢; omega) ?_
    have e1 : ((V.ref x :: vs).map some).reverse ++ ρ = (vs.map some).reverse ++ (some (.ref x) :: ρ) := by simp
    have e2 : (Cell.own (Obw.mk () : Obw c [] Unit) (some (.ref x)) :: cells a).reverse ++ Θ = (cells a).reverse ++ (Cell.own (Obw.mk () : Obw c [] Unit) (some (.ref x)) :: Θ) := by simp
    rw [e1, e2, List.zip_cons_cons, List.zip_append lr, List.zip_append lr, List.zip_cons_cons]
    exact List.perm_middle.symm
  have E3 := E2.enter (vs := (V.ref x :: vs).map some) (cs := Cell.own (Obw.mk () : Obw c [] Unit) (some (.ref x)) :: cells a) (by simp [hn, hc])
  refine ⟨by simp [hn], a, I, _, _, E3, ?_⟩
  refine wp_mono h2 (fun b q I' H' v E' => ?_) fun e x => x.elim
  have ev : v = V.non := (E'.topS).1
  refine ⟨ev, ?_⟩
  have E'2 : EnvL K I' H' ((some (.ref x), .own (Obw.mk b : Obw c fs τ) (some (.ref x))) :: ((some v :: (σ ++ ρ)).zip (.im () :: (Γ ++ Θ)))) := E'.2.2
  obtain ⟨p, dx', C', vs', e1, _, _, _, _, _, _, fz⟩ := E'2.ownB
  have lz := E'.2.1
  simp only [List.length_cons, List.length_append] at lz
  rw [List.zip_cons_cons] at fz
  have fz2 := (fz.perm (List.Perm.swap _ _ _)).tail
  have E4 : Env K (upd I' p (.ins C' dx' (fs.zip vs'))) H' [] [] (some (.ref x) :: (σ ++ ρ)) (.im (Ob.mk b : Ob c fs τ) :: (Γ ++ Θ)) := ⟨rfl, by simp only [List.length_cons, List.length_append]; omega, fz2⟩
  exact next b _ H' _ (E4.leave E.1) q
theorem st_neR {b : Bool} (E : Env K I H σ Γ (some v :: ρ) (.im b :: Θ)) (next : ∀ v', Env K I H σ Γ (some v' :: ρ) (.im (!b) :: Θ) → Q v' H) : ∃ r, v = .bl r ∧ Q (.bl (!r)) H := by
  have r := E.topS
  exact ⟨b, r.1, next _ ((Env.pop E).pushS (α := Bool) (a := !b) trivial)⟩
end
end M
namespace M
open PySem PySem.Spec PyProof PyProof.Rows L2
theorem noCXN {P : Program} {w : World} : ∀ outer H s e s', ¬ L2N.CX P w outer H s (fun _ _ _ => False) e s' := fun outer H s e s' c => by
  obtain ⟨a, B, H', cls, d, z1, fl, z2, ub, z3, z4, z5, z6⟩ := c
  exact (by first | exact z4.elim | exact z3.elim | exact z5.elim | exact z6.elim | exact z2.elim)
end M
namespace M
open PySem PySem.Spec PyProof PyProof.Rows L2
/-- a reading that gives x and leaves the heap -/
def HV (K : PySem.W.Frag) (te : TE) (Γ : List Cell) {α : Type} [Rep α] (x : α) : Prop :=
  ∀ {I H : Hp} {σ ρ : List (Option V)} {Θ : List Cell} {Q : VK}, Env K I H σ Γ ρ Θ → (∀ v, Rep.rp K I v x → Q v H) → te σ H Q
section
variable {K : PySem.W.Frag} {Γ : List Cell} {j i n : Nat} {te ti : TE} {C : Addr} {c f : Str} {fs : List Str} {α τ : Type} {pn : Option V}
theorem hv_var [Rep α] {x : α} (hΓ : Γ[j]? = some (.im x)) : HV K (tVar j) Γ x := fun {I H σ ρ Θ Q} E q => by
  obtain ⟨w, hs, r⟩ := E.get hΓ
  exact ⟨w, hs, q w r⟩
theorem hv_fld [RepL τ] [Rep α] {x : Ob c fs τ} {y : α} (h : HV K te Γ x) (ko : KO K c C) (na : NoAttr K C f) (hi : fs[i]? = some f) (hn : (fs.take i).contains f = false) (hf : ∀ {I vs}, RepL.rpl K I vs x.v → FlA K I vs i y) : HV K (tFld K te f) Γ y := fun {I H σ ρ Θ Q} E q => h E fun w r => by
  obtain ⟨p, dx, vs, rfl, hl, hp, r⟩ := obj_at r E.same ko
  obtain ⟨u, hu, ru⟩ := hf r
  exact ⟨p, C, dx, _, u, rfl, hp, ko.cls, na, (lookup_zip hl hi hn).trans hu, q u ru⟩
theorem hv_fldO [RepL τ] [Rep α] {x : Obw c fs τ} {y : α} (hΓ : Γ[j]? = some (.own x pn)) (ko : KO K c C) (na : NoAttr K C f) (hi : fs[i]? = some f) (hn : (fs.take i).contains f = false) (hf : ∀ {I vs}, RepL.rpl K I vs x.v → FlA K I vs i y) : HV K (tFld K (tVar j) f) Γ y := fun {I H σ ρ Θ Q} E q => by
  obtain ⟨p, dx, C', vs, hs, hp, _, hC, hl, r, _⟩ := E.objAt hΓ
  have e := ClsAt.uniq hC ko.at_
  subst e
  obtain ⟨u, hu, ru⟩ := hf r
  exact ⟨_, hs, p, C', dx, _, u, rfl, hp, ko.cls, na, (lookup_zip hl hi hn).trans hu, q u ru⟩
theorem hf_hv [Sca α] {y : α} (h : HV K te Γ y) : HF K te Γ (.ok y) := .mk fun X Q E q => h E fun w r => by
  have e1 : w = Sca.enc y := r.1
  rw [e1]
  exact q r.2
theorem hf_lenHT [Rep α] {x : TupL α} (h : HV K te Γ x) : HF K (tCB (rLen2 K) (tCons te tNil)) Γ (.ok ((x.l.length : Nat) : Int)) := .mk fun X Q E q => h E fun w r => by
  obtain ⟨a, vs, e, ha, p⟩ := r
  subst e
  refine ⟨a, vs, rfl, .inr (same_seqT E.same ha), ?_⟩
  have hl : vs.length = x.l.length := Paired.length p
  rw [hl]
  exact q trivial
theorem hf_lenHL [Rep α] {x : List α} (h : HV K te Γ x) : HF K (tCB (rLen2 K) (tCons te tNil)) Γ (.ok ((x.length : Nat) : Int)) := .mk fun X Q E q => h E fun w r => by
  obtain ⟨a, vs, e, ha, p⟩ := r
  subst e
  refine ⟨a, vs, rfl, .inl (SqL.of (E.same _ _ ha)), ?_⟩
  have hl : vs.length = x.length := Paired.length p
  rw [hl]
  exact q trivial
theorem hf_lenScr {x : Scr} (hΓ : Γ[j]? = some (.im x)) : HF K (tCB (rLen2 K) (tCons (tVar j) tNil)) Γ (.ok ((x.l.length : Nat) : Int)) := .mk fun X Q E q => by
  obtain ⟨w, hs, a, e, hq⟩ := E.get hΓ
  subst e
  refine ⟨_, hs, a, _, rfl, .inl (E.same.seq hq), ?_⟩
  rw [List.length_map]
  exact q trivial
theorem hf_ixHT [Sca α] {x : TupL α} {m : Res Int} (h : HV K te Γ x) (hi : HF K ti Γ m) : HF K (tOp (rIxT K) te ti) Γ (m.bind fun i => lGet x.l i) := .mk fun X Q E q => h E fun w r => by
  obtain ⟨a, vs, e, ha, p⟩ := r
  subst e
  refine hi.run X _ E (wpb q fun i q _ => ?_)
  unfold lGet at q
  cases e : atI x.l i with
  | none => rw [e] at q; exact q.elim
  | some y =>
    rw [e] at q
    obtain ⟨w, e2, r⟩ := atI_paired p e
    refine ⟨a, vs, i, w, rfl, rfl, same_seqT E.same ha, e2, ?_⟩
    rw [r.1]
    exact q r.2
theorem hf_ixHTp [Sca α] {x : TupL α} {i : Int} (h : HV K te Γ x) (hi : HF K ti Γ (.ok i)) : HF K (tOp (rIxT K) te ti) Γ (lGet x.l i) := hf_ixHT h hi
end
end M
namespace M
open PySem PySem.Spec PyProof PyProof.Rows L2
theorem hf_ixScr {K : PySem.W.Frag} {Γ : List Cell} {j : Nat} {ti : TE} {x : Scr} {m : Res Int} (hΓ : Γ[j]? = some (.im x)) (hi : HF K ti Γ m) : HF K (tOp (rIxL K) (tVar j) ti) Γ (m.bind fun i => lGet x.l i) := .mk fun X Q E q => by
  obtain ⟨w, hs, a, e, hq⟩ := E.get hΓ
  subst e
  refine ⟨_, hs, hi.run X _ E (wpb q fun i q _ => ?_)⟩
  unfold lGet at q
  cases e : atI x.l i with
  | none => rw [e] at q; exact q.elim
  | some y =>
    rw [e] at q
    obtain ⟨w, e2, r⟩ := atI_paired (ints_paired (K := K) (I := fun _ => none) x.l) e
    refine ⟨a, _, i, w, rfl, rfl, E.same.seq hq, e2, ?_⟩
    rw [r.1]
    exact q r.2
end M
namespace M
open PySem PySem.Spec PyProof PyProof.Rows L2
theorem st_neT {K : PySem.W.Frag} {I H : Hp} {σ ρ : List (Option V)} {Γ Θ : List Cell} {v : V} {b : Bool} {R : Bool → Prop} (E : Env K I H σ Γ (some v :: ρ) (.im b :: Θ)) (next : ∀ v', Env K I H σ Γ (some v' :: ρ) (.im (!b) :: Θ) → ∃ k, v' = .bl k ∧ R k) : ∃ r, v = .bl r ∧ ∃ k, V.bl (!r) = V.bl k ∧ R k := by
  have r := E.topS
  exact ⟨b, r.1, next _ ((Env.pop E).pushS (α := Bool) (a := !b) trivial)⟩
end M
namespace M
open PySem PySem.Spec PyProof PyProof.Rows L2
theorem kit_tyr {K : PySem.W.Frag} {T : Addr} {n : String} {b : Bool} (hd : PySem.W.hasDictIn K T = true) (ht : PySem.W.typeIn K (.ref T) = some (.type "type")) (hs : PySem.W.subIn K (.type n) (.ref T) = some b) : PySem.W.kitOne K (.type n) (.ref T) = some b := by
  unfold PySem.W.kitOne
  have ne : (Value.type n == Value.ref T) = false := rfl
  rw [ne, if_neg Bool.false_ne_true]
  obtain ⟨cd, hcd, _⟩ := PySem.W.any_some hd
  show (if ((PySem.W.clsIn K T).isSome && PySem.W.typeIn K (.ref T) == some (.type "type")) = true then PySem.W.subIn K (.type n) (.ref T) else none) = some b
  have e2 : ((PySem.W.clsIn K T).isSome && PySem.W.typeIn K (.ref T) == some (.type "type")) = true := by rw [hcd, ht] <;> rfl
  rw [if_pos e2]
  exact hs
end M
/-! plain facts about the mirrors' words -/
namespace M
open PySem L2
theorem rngR_ok {lo hi : Int} (h : RgOk lo hi) : rngR lo hi = .ok (rng lo hi) := by unfold rngR; rw [clo_eq]; exact if_pos h
theorem rgOk {lo hi : Int} (h1 : -1000000 ≤ lo) (h2 : lo ≤ 1000000) (h3 : -1000000 ≤ hi) (h4 : hi ≤ 1000000) : RgOk lo hi := by unfold RgOk; omega
theorem mem_rng {lo hi x : Int} : x ∈ rng lo hi ↔ lo ≤ x ∧ x < hi := by
  unfold rng
  rw [List.mem_map]
  constructor
  · rintro ⟨i, hi, rfl⟩
    have := List.mem_range.mp hi
    omega
  · rintro ⟨h1, h2⟩
    exact ⟨(x - lo).toNat, List.mem_range.mpr (by omega), by omega⟩
theorem rng_len {lo hi : Int} : (rng lo hi).length = (hi - lo).toNat := by unfold rng; simp
theorem modI_ok {x y : Int} (h : 0 < y) : modI x y = .ok (x % y) := by unfold modI; exact if_pos h
theorem log2_le {n k : Nat} (h : n < 2 ^ k) : n.log2 ≤ k := by
  by_cases e : n = 0
  · subst e; simp
  · exact Nat.le_of_lt ((Nat.log2_lt e).mpr h)
theorem divI_ok {x y : Int} (h : 0 < y) (h2 : y < 2 ^ 1000) : divI x y = .ok (x / y) := by
  unfold divI
  rw [clo_eq]
  refine if_pos ⟨h, ?_⟩
  have : y.natAbs < 2 ^ 1000 := by omega
  exact Nat.lt_of_le_of_lt (log2_le this) (by decide)
theorem mulI_ok {x y : Int} (h : x.natAbs < 2 ^ 1000) (h2 : y.natAbs < 2 ^ 1000) : mulI x y = .ok (x * y) := by
  unfold mulI
  rw [clo_eq]
  refine if_pos ?_
  have a := log2_le h
  have b := log2_le h2
  omega
theorem xCat_ok {a b : Tx} (h : a.length + b.length ≤ 100000) : xCat a b = .ok (a ++ b) := by
  unfold xCat
  rw [clo_eq]
  exact if_pos (Nat.le_trans h (by decide))
theorem ixN_nat {n k : Nat} (h : k < n) : ixN n (k : Int) = some k := by
  unfold ixN
  rw [if_pos (by omega), if_pos (by omega), Int.toNat_natCast]
theorem atI_nat {α : Type} {xs : List α} {k : Nat} (h : k < xs.length) : atI xs (k : Int) = some xs[k] := by
  unfold atI
  rw [ixN_nat h]
  exact List.getElem?_eq_getElem h
theorem lGet_nat {α : Type} {xs : List α} {k : Nat} (h : k < xs.length) : lGet xs (k : Int) = .ok xs[k] := by
  unfold lGet
  rw [atI_nat h]
theorem lGet_int {α : Type} {xs : List α} {i : Int} (h0 : 0 ≤ i) (h : i.toNat < xs.length) : lGet xs i = .ok xs[i.toNat] := by
  have e : ((i.toNat : Nat) : Int) = i := by omega
  have q := lGet_nat h
  rw [e] at q
  exact q
theorem xGet_nat {w : Tx} {k : Nat} (h : k < w.length) : xGet w (k : Int) = .ok [w[k]] := by
  unfold xGet
  rw [atI_nat h]
theorem xGet_int {w : Tx} {i : Int} (h0 : 0 ≤ i) (h : i.toNat < w.length) : xGet w i = .ok [w[i.toNat]] := by
  have e : ((i.toNat : Nat) : Int) = i := by omega
  have q := xGet_nat h
  rw [e] at q
  exact q
theorem lSet_nat {α : Type} {xs : List α} {k : Nat} {y : α} (h : k < xs.length) : lSet xs (k : Int) y = .ok (xs.set k y) := by
  unfold lSet
  rw [ixN_nat h]
theorem lApp_ok {α : Type} {xs : List α} {x : α} (h : xs.length < 100000) : lApp xs x = .ok (xs ++ [x]) := by
  unfold lApp
  rw [clo_eq]
  exact if_pos (Nat.lt_of_lt_of_le h (by decide))
theorem xRep_ok {w : Tx} {n : Int} (h0 : 0 ≤ n) (h1 : n ≤ 100000) (h2 : w.length * n.toNat ≤ 100000) : xRep w n = .ok (List.replicate n.toNat w).flatten := by
  unfold xRep
  rw [clo_eq]
  refine if_pos ⟨by omega, by omega, Nat.le_trans h2 (by decide)⟩
theorem lPopAt0 {α : Type} {x : α} {xs : List α} : lPopAt (x :: xs) (0 : Int) = .ok (x, xs) := by
  unfold lPopAt
  rw [clo_eq]
  rw [if_pos (by decide)]
  have e : seqIndex? (0 : Int) (x :: xs).length = some 0 := by
    unfold seqIndex?
    simp
  rw [e]
  rfl
/-! slices -/
theorem cut_from {α : Type} (xs : List α) (k : Nat) : cutL xs (some (k : Int)) none = xs.drop k := by
  unfold cutL
  rw [HT.sIx_nat]
  show (xs.drop (min k xs.length)).take (xs.length - min k xs.length) = _
  rw [List.take_of_length_le (by rw [List.length_drop]; omega)]
  by_cases h : k ≤ xs.length
  · rw [Nat.min_eq_left h]
  · rw [Nat.min_eq_right (by omega), List.drop_of_length_le (Nat.le_refl _), List.drop_of_length_le (by omega)]
theorem cut_to {α : Type} (xs : List α) (k : Nat) : cutL xs none (some (k : Int)) = xs.take k := by
  unfold cutL
  rw [HT.sIx_nat]
  show (xs.drop 0).take (min k xs.length - 0) = _
  rw [List.drop_zero, Nat.sub_zero]
  by_cases h : k ≤ xs.length
  · rw [Nat.min_eq_left h]
  · rw [Nat.min_eq_right (by omega), List.take_of_length_le (Nat.le_refl _), List.take_of_length_le (by omega)]
theorem cut_mid {α : Type} (xs : List α) (i j : Nat) : cutL xs (some (i : Int)) (some (j : Int)) = (xs.drop i).take (j - i) := by
  unfold cutL
  rw [HT.sIx_nat, HT.sIx_nat]
  by_cases h : i ≤ xs.length
  · rw [Nat.min_eq_left h]
    by_cases h2 : j ≤ xs.length
    · rw [Nat.min_eq_left h2]
    · rw [Nat.min_eq_right (by omega), List.take_of_length_le (by rw [List.length_drop]; omega), List.take_of_length_le (by rw [List.length_drop]; omega)]
  · rw [Nat.min_eq_right (by omega : xs.length ≤ i), List.drop_of_length_le (Nat.le_refl _), List.drop_of_length_le (by omega : xs.length ≤ i)]
    simp
theorem cut_last {α : Type} (xs : List α) (k : Nat) (h : 0 < k) : cutL xs (some (-(k : Int))) none = xs.drop (xs.length - k) := by
  unfold cutL
  have e : HT.sIx xs.length 0 (some (-(k : Int))) = xs.length - k := by
    show (if -(k : Int) < 0 then (-(k : Int) + (xs.length : Int)).toNat else _) = _
    rw [if_pos (by omega)]
    omega
  rw [e]
  show (xs.drop (xs.length - k)).take (xs.length - (xs.length - k)) = _
  rw [List.take_of_length_le (by rw [List.length_drop]; omega)]
/-! loops -/
/-- a search: the first x with P x -/
theorem forR_find {α ρ : Type} {f : α → Unit → Res (Fl ρ Unit)} {P : α → Bool} {g : α → ρ} : ∀ {xs : List α}, (∀ x ∈ xs, f x () = .ok (if P x = true then .rt (g x) else .nx ())) →
    forR f xs () = .ok (match xs.find? P with | some x => .ret (g x) | none => .fin ())
  | [], _ => forR_nil
  | x :: xs, h => by
    rw [forR_cons, h x List.mem_cons_self, Res.bind_ok]
    cases hp : P x with
    | true => rw [List.find?_cons_of_pos hp]; rfl
    | false =>
      rw [List.find?_cons_of_neg (by rw [hp]; decide)]
      exact forR_find fun y hy => h y (List.mem_cons_of_mem _ hy)
/-- nothing is found -/
theorem forR_all {α ρ S : Type} {f : α → S → Res (Fl ρ S)} {s : S} : ∀ {xs : List α}, (∀ x ∈ xs, f x s = .ok (.nx s)) → forR f xs s = .ok (.fin s)
  | [], _ => forR_nil
  | x :: xs, h => by
    rw [forR_cons, h x List.mem_cons_self, Res.bind_ok]
    exact forR_all fun y hy => h y (List.mem_cons_of_mem _ hy)
/-- each turn goes on -/
theorem forR_fold {α ρ S : Type} {f : α → S → Res (Fl ρ S)} {g : S → α → S} : ∀ {xs : List α} {s : S} (Iv : S → Prop), Iv s → (∀ x ∈ xs, ∀ s, Iv s → f x s = .ok (.nx (g s x)) ∧ Iv (g s x)) → forR f xs s = .ok (.fin (xs.foldl g s)) ∧ Iv (xs.foldl g s)
  | [], _, _, h0, _ => ⟨forR_nil, h0⟩
  | x :: xs, s, Iv, h0, h => by
    obtain ⟨e, h1⟩ := h x List.mem_cons_self s h0
    rw [forR_cons, e, Res.bind_ok]
    exact forR_fold Iv h1 fun y hy => h y (List.mem_cons_of_mem _ hy)
theorem forS_inv {α S : Type} {f : α → S → Res S} (Iv : Nat → S → Prop) : ∀ {xs : List α} {s : S} {k : Nat}, Iv k s → (∀ j s x, x ∈ xs → j < k + xs.length → Iv j s → ∃ s', f x s = .ok s' ∧ Iv (j + 1) s') → ∃ s', forS f xs s = .ok s' ∧ Iv (k + xs.length) s'
  | [], s, k, h0, _ => ⟨s, forS_nil, h0⟩
  | x :: xs, s, k, h0, h => by
    obtain ⟨s1, e, h1⟩ := h k s x List.mem_cons_self (by simp) h0
    obtain ⟨s2, e2, h2⟩ := forS_inv Iv (xs := xs) h1 fun k s y hy hk => h k s y (List.mem_cons_of_mem _ hy) (by rw [List.length_cons]; omega)
    refine ⟨s2, ?_, ?_⟩
    · rw [forS_cons, e, Res.bind_ok, e2]
    · rw [List.length_cons]
      have e3 : k + (xs.length + 1) = k + 1 + xs.length := by omega
      rw [e3]
      exact h2
theorem forS_use {α S γ : Type} {f : α → S → Res S} {K : S → Res γ} {xs : List α} {s : S} (motive : Res γ → Prop) (Iv : Nat → S → Prop) (h0 : Iv 0 s) (step : ∀ k s x, x ∈ xs → k < xs.length → Iv k s → ∃ s', f x s = .ok s' ∧ Iv (k + 1) s')
    (h : ∀ s', Iv xs.length s' → motive (K s')) : motive ((forS f xs s).bind K) := by
  obtain ⟨s', e, i⟩ := forS_inv Iv h0 (by rw [Nat.zero_add]; exact step)
  rw [e, Res.bind_ok]
  rw [Nat.zero_add] at i
  exact h s' i
theorem mapR_ok {α β : Type} {f : α → Res β} {g : α → β} : ∀ {xs : List α}, (∀ x ∈ xs, f x = .ok (g x)) → mapR f xs = .ok (xs.map g)
  | [], _ => mapR_nil
  | x :: xs, h => by
    rw [mapR_cons, h x List.mem_cons_self, Res.bind_ok, mapR_ok fun y hy => h y (List.mem_cons_of_mem _ hy), Res.bind_ok]
    rfl
theorem filR_ok {α β : Type} {t : α → Res Bool} {f : α → Res β} {p : α → Bool} {g : α → β} : ∀ {xs : List α}, (∀ x ∈ xs, t x = .ok (p x)) → (∀ x ∈ xs, f x = .ok (g x)) → filR t f xs = .ok ((xs.filter p).map g)
  | [], _, _ => filR_nil
  | x :: xs, h, h2 => by
    rw [filR_cons, h x List.mem_cons_self, Res.bind_ok]
    have ih := filR_ok (xs := xs) (fun y hy => h y (List.mem_cons_of_mem _ hy)) fun y hy => h2 y (List.mem_cons_of_mem _ hy)
    cases hp : p x with
    | true =>
      rw [if_pos rfl, h2 x List.mem_cons_self, Res.bind_ok, ih, Res.bind_ok, List.filter_cons_of_pos hp]
      rfl
    | false =>
      rw [if_neg (by decide), ih, List.filter_cons_of_neg (by rw [hp]; decide)]
theorem lcM_ok {α β : Type} {f : α → Res β} {g : α → β} {xs : List α} (hl : xs.length ≤ 100000) (h : ∀ x ∈ xs, f x = .ok (g x)) : lcM f xs = .ok (xs.map g) := by
  unfold lcM
  rw [clo_eq]
  rw [if_pos (Nat.le_trans hl (by decide)), mapR_ok h]
theorem lcR_ok {α β : Type} {t : α → Res Bool} {f : α → Res β} {p : α → Bool} {g : α → β} {xs : List α} (hl : xs.length ≤ 100000) (h : ∀ x ∈ xs, t x = .ok (p x)) (h2 : ∀ x ∈ xs, f x = .ok (g x)) : lcR t f xs = .ok ((xs.filter p).map g) := by
  unfold lcR
  rw [clo_eq]
  rw [if_pos (Nat.le_trans hl (by decide)), filR_ok h h2]
/-! while -/
theorem fuel_eq : fuel = 100000 := clo_eq _
theorem while_n {ρ S : Type} {c : S → Res Bool} {f : S → Res (Fl ρ S)} (Iv Post : S → Prop) (μ : S → Nat) (step : ∀ s, Iv s → ∃ b, c s = .ok b ∧ (b = true → ∃ s', f s = .ok (.nx s') ∧ Iv s' ∧ μ s' < μ s) ∧ (b = false → Post s)) :
    ∀ (n : Nat) (s : S), Iv s → μ s < n → ∃ s', whileR c f n s = .ok (.fin s') ∧ Post s'
  | 0, _, _, h => absurd h (Nat.not_lt_zero _)
  | n + 1, s, hi, hm => by
    obtain ⟨b, e, h1, h2⟩ := step s hi
    rw [whileR_succ, e, Res.bind_ok]
    cases b with
    | false => exact ⟨s, by rw [if_neg (by decide)], h2 rfl⟩
    | true =>
      obtain ⟨s', e', hi', hm'⟩ := h1 rfl
      rw [if_pos rfl, e', Res.bind_ok]
      exact while_n Iv Post μ step n s' hi' (by omega)
/-- for a goal that holds of what the loop comes to -/
theorem while_use {ρ S γ : Type} {c : S → Res Bool} {f : S → Res (Fl ρ S)} {K : Lp ρ S → Res γ} {s : S} (motive : Res γ → Prop) (Iv Post : S → Prop) (μ : S → Nat) (h0 : Iv s) (hm : μ s < 100000)
    (step : ∀ s, Iv s → ∃ b, c s = .ok b ∧ (b = true → ∃ s', f s = .ok (.nx s') ∧ Iv s' ∧ μ s' < μ s) ∧ (b = false → Post s)) (h : ∀ s', Post s' → motive (K (.fin s'))) : motive ((whileR c f fuel s).bind K) := by
  rw [fuel_eq]
  obtain ⟨s', e, p⟩ := while_n Iv Post μ step 100000 s h0 hm
  rw [e, Res.bind_ok]
  exact h s' p
theorem forS_fold {α S : Type} {f : α → S → Res S} {g : S → α → S} (Iv : S → Prop) : ∀ {xs : List α} {s : S}, Iv s → (∀ x ∈ xs, ∀ s, Iv s → f x s = .ok (g s x) ∧ Iv (g s x)) → forS f xs s = .ok (xs.foldl g s) ∧ Iv (xs.foldl g s)
  | [], _, h0, _ => ⟨forS_nil, h0⟩
  | x :: xs, s, h0, h => by
    obtain ⟨e, h1⟩ := h x List.mem_cons_self s h0
    rw [forS_cons, e, Res.bind_ok]
    exact forS_fold Iv h1 fun y hy => h y (List.mem_cons_of_mem _ hy)
/-- turns over lo, lo + 1, .. : the invariant by the place -/
theorem forS_rng {S γ : Type} {f : Int → S → Res S} {K : S → Res γ} {lo n : Nat} {s : S} (motive : Res γ → Prop) (Iv : Nat → S → Prop) (hl : lo ≤ n) (h0 : Iv lo s) (step : ∀ (k : Nat) (s : S), lo ≤ k → k < n → Iv k s → ∃ s', f (k : Int) s = .ok s' ∧ Iv (k + 1) s') (h : ∀ s', Iv n s' → motive (K s')) :
    motive ((forS f (rng (lo : Int) (n : Int)) s).bind K) := by
  have main : ∀ (d k : Nat) (s : S), k + d = n → lo ≤ k → Iv k s → ∃ s', forS f ((List.range' k d).map fun (i : Nat) => (i : Int)) s = .ok s' ∧ Iv n s' := by
    intro d
    induction d with
    | zero => exact fun k s e _ hk => ⟨s, forS_nil, by have : k = n := by omega
                                                       rw [← this]; exact hk⟩
    | succ d ih =>
      intro k s e hlk hk
      obtain ⟨s1, e1, h1⟩ := step k s hlk (by omega) hk
      obtain ⟨s2, e2, h2⟩ := ih (k + 1) s1 (by omega) (by omega) h1
      refine ⟨s2, ?_, h2⟩
      rw [List.range'_succ, List.map_cons, forS_cons, e1, Res.bind_ok]
      exact e2
  have er : rng (lo : Int) (n : Int) = (List.range' lo (n - lo)).map fun (i : Nat) => (i : Int) := by
    unfold rng
    have e1 : ((n : Int) - (lo : Int)).toNat = n - lo := by omega
    rw [e1, List.range'_eq_map_range, List.map_map]
    apply List.map_congr_left
    intro i _
    show (lo : Int) + (i : Int) = ((lo + i : Nat) : Int)
    omega
  obtain ⟨s', e, hs⟩ := main (n - lo) lo s (by omega) (Nat.le_refl _) h0
  rw [er, e, Res.bind_ok]
  exact h s' hs
end M
/-! what a mirror comes to, step by step -/
namespace M
open PySem L2
def Ok {α : Type} (m : Res α) (P : α → Prop) : Prop := ∃ a, m = .ok a ∧ P a
section
variable {α β γ ρ S : Type} {P Q : α → Prop}
theorem ok_ret {a : α} (h : P a) : Ok (.ok a) P := ⟨a, rfl, h⟩
theorem ok_bind {m : Res β} {f : β → Res α} (h : Ok m fun b => Ok (f b) P) : Ok (m.bind f) P := by
  obtain ⟨b, rfl, h⟩ := h
  exact h
theorem ok_mono {m : Res α} (h : Ok m Q) (k : ∀ a, Q a → P a) : Ok m P := by
  obtain ⟨a, e, h⟩ := h
  exact ⟨a, e, k a h⟩
theorem ok_eq {m : Res α} {a : α} (e : m = .ok a) (h : P a) : Ok m P := ⟨a, e, h⟩
theorem Ok.get {m : Res α} {a : α} (h : Ok m fun x => x = a) : m = .ok a := by
  obtain ⟨b, e, rfl⟩ := h
  exact e
theorem ok_ite {c : Bool} {m n : Res α} (h : c = true → Ok m P) (k : c = false → Ok n P) : Ok (if c = true then m else n) P := by
  cases c with
  | true => rw [if_pos rfl]; exact h rfl
  | false => rw [if_neg (by decide)]; exact k rfl
theorem ok_nt {m n : Res α} (h : Ok n P) : Ok (if (!true) = true then m else n) P := h
theorem ok_nf {m n : Res α} (h : Ok m P) : Ok (if (!false) = true then m else n) P := h
theorem ok_tt {m n : Res α} (h : Ok m P) : Ok (if true = true then m else n) P := h
theorem ok_ff {m n : Res α} (h : Ok n P) : Ok (if false = true then m else n) P := h
theorem ok_modI {x y : Int} {P : Int → Prop} (h : 0 < y) (k : P (x % y)) : Ok (modI x y) P := ⟨_, modI_ok h, k⟩
theorem ok_divI {x y : Int} {P : Int → Prop} (h : 0 < y) (h2 : y < 1000000000000) (k : P (x / y)) : Ok (divI x y) P := ⟨_, divI_ok h (Int.lt_trans h2 (by decide +kernel)), k⟩
theorem small_nat {x : Int} (h : -1000000000000 < x ∧ x < 1000000000000) : x.natAbs < 2 ^ 1000 := Nat.lt_of_lt_of_le (by omega : x.natAbs < 1000000000000) (by decide +kernel)
theorem ok_mulI {x y : Int} {P : Int → Prop} (h : -1000000000000 < x ∧ x < 1000000000000) (h2 : -1000000000000 < y ∧ y < 1000000000000) (k : P (x * y)) : Ok (mulI x y) P := ⟨_, mulI_ok (small_nat h) (small_nat h2), k⟩
theorem ok_xCat {a b : Tx} {P : Tx → Prop} (h : a.length + b.length ≤ 100000) (k : P (a ++ b)) : Ok (xCat a b) P := ⟨_, xCat_ok h, k⟩
theorem ok_xRep {w : Tx} {n : Int} {P : Tx → Prop} (h0 : 0 ≤ n) (h1 : n ≤ 100000) (h2 : w.length * n.toNat ≤ 100000) (k : P (List.replicate n.toNat w).flatten) : Ok (xRep w n) P := ⟨_, xRep_ok h0 h1 h2, k⟩
theorem ok_lApp {xs : List α} {x : α} {P : List α → Prop} (h : xs.length < 100000) (k : P (xs ++ [x])) : Ok (lApp xs x) P := ⟨_, lApp_ok h, k⟩
theorem ok_lCat {xs ys : List α} {P : List α → Prop} (h : xs.length + ys.length ≤ 100000) (k : P (xs ++ ys)) : Ok (lCat xs ys) P := by
  refine ⟨xs ++ ys, ?_, k⟩
  unfold lCat
  rw [clo_eq]
  exact if_pos (Nat.le_trans h (by decide))
theorem ok_lRep {xs : List α} {n : Int} {P : List α → Prop} (h0 : 0 ≤ n) (h1 : n ≤ 100000) (h2 : xs.length * n.toNat ≤ 100000) (k : P (List.replicate n.toNat xs).flatten) : Ok (lRep xs n) P := by
  refine ⟨_, ?_, k⟩
  unfold lRep
  rw [clo_eq]
  refine if_pos ⟨by omega, by omega, Nat.le_trans h2 (by decide)⟩
theorem ok_rngR {a b : Int} {P : List Int → Prop} (h1 : -1000000000000 ≤ a ∧ a ≤ 1000000000000) (h2 : -1000000000000 ≤ b ∧ b ≤ 1000000000000) (k : P (rng a b)) : Ok (rngR a b) P := ⟨_, rngR_ok (by unfold RgOk; omega), k⟩
theorem ok_rngL {b : Int} {P : List Int → Prop} (h2 : -1000000 ≤ b ∧ b ≤ 1000000) (k : P (rng 0 b)) : Ok (rngL b) P := by
  refine ⟨_, ?_, k⟩
  unfold rngL
  rw [clo_eq]
  refine if_pos ?_
  unfold L2.RgOk
  omega
theorem ok_lGet [Inhabited α] {xs : List α} {i : Int} (h0 : 0 ≤ i) (h : i < xs.length) (k : P (xs.getD i.toNat default)) : Ok (lGet xs i) P := by
  have hl : i.toNat < xs.length := by omega
  refine ⟨_, lGet_int h0 hl, ?_⟩
  rw [List.getD_eq_getElem?_getD, List.getElem?_eq_getElem hl] at k
  exact k
theorem ok_lGetE {xs : List α} {i : Int} (h0 : 0 ≤ i) (h : i < xs.length) (k : ∀ h : i.toNat < xs.length, P xs[i.toNat]) : Ok (lGet xs i) P := ⟨_, lGet_int h0 (by omega), k _⟩
theorem ok_xGet {w : Tx} {i : Int} {P : Tx → Prop} (h0 : 0 ≤ i) (h : i < w.length) (k : P [w.getD i.toNat 0]) : Ok (xGet w i) P := by
  have hl : i.toNat < w.length := by omega
  refine ⟨_, xGet_int h0 hl, ?_⟩
  rw [List.getD_eq_getElem?_getD, List.getElem?_eq_getElem hl] at k
  exact k
theorem ok_lSet {xs : List α} {i : Int} {y : α} {P : List α → Prop} (h0 : 0 ≤ i) (h : i < xs.length) (k : P (xs.set i.toNat y)) : Ok (lSet xs i y) P := by
  have e : ((i.toNat : Nat) : Int) = i := by omega
  have q := lSet_nat (xs := xs) (k := i.toNat) (y := y) (by omega)
  rw [e] at q
  exact ⟨_, q, k⟩
theorem ok_noX {m : Res α} (h : Ok m P) : Ok (noX m) P := by
  obtain ⟨a, rfl, h⟩ := h
  exact ⟨a, rfl, h⟩
theorem ok_lcM {f : α → Res β} {g : α → β} {xs : List α} {P : List β → Prop} (hl : xs.length ≤ 100000) (h : ∀ x ∈ xs, Ok (f x) fun y => y = g x) (k : P (xs.map g)) : Ok (lcM f xs) P := ⟨_, lcM_ok hl fun x hx => (h x hx).get, k⟩
theorem ok_lcR {t : α → Res Bool} {f : α → Res β} {p : α → Bool} {g : α → β} {xs : List α} {P : List β → Prop} (hl : xs.length ≤ 100000) (h : ∀ x ∈ xs, Ok (t x) fun y => y = p x) (h2 : ∀ x ∈ xs, Ok (f x) fun y => y = g x)
    (k : P ((xs.filter p).map g)) : Ok (lcR t f xs) P := ⟨_, lcR_ok hl (fun x hx => (h x hx).get) fun x hx => (h2 x hx).get, k⟩
theorem rng_nil {a b : Int} (h : b ≤ a) : rng a b = [] := by
  unfold rng
  have : (b - a).toNat = 0 := by omega
  rw [this]
  rfl
theorem rng_cons {a b : Int} (h : a < b) : rng a b = a :: rng (a + 1) b := by
  unfold rng
  obtain ⟨n, hn⟩ : ∃ n, (b - a).toNat = n + 1 := ⟨(b - a).toNat - 1, by omega⟩
  have h2 : (b - (a + 1)).toNat = n := by omega
  rw [hn, h2, List.range_succ_eq_map, List.map_cons, List.map_map]
  congr 1
  · simp
  · apply List.map_congr_left
    intro i _
    simp
    omega
/-- a loop over lo, lo + 1, .. -/
theorem ok_forS {f : Int → S → Res S} {b : Int} {P : S → Prop} (Iv : Int → S → Prop) {a : Int} {s : S} (hab : a ≤ b) (h0 : Iv a s) (step : ∀ k s, a ≤ k → k < b → Iv k s → Ok (f k s) (Iv (k + 1))) (post : ∀ s, Iv b s → P s) : Ok (forS f (rng a b) s) P := by
  have main : ∀ (n : Nat) (k : Int) (s : S), a ≤ k → k + n = b → Iv k s → Ok (forS f (rng k b) s) P := by
    intro n
    induction n with
    | zero =>
      intro k s _ e i
      rw [rng_nil (by omega)]
      have : k = b := by omega
      subst this
      exact ⟨s, forS_nil, post s i⟩
    | succ n ih =>
      intro k s h1 e i
      obtain ⟨s', e', i'⟩ := step k s h1 (by omega) i
      rw [rng_cons (by omega), forS_cons, e', Res.bind_ok]
      exact ih (k + 1) s' (by omega) (by omega) i'
  exact main (b - a).toNat a s (Int.le_refl _) (by omega) h0
/-- the same by natural numbers -/
theorem ok_forN {f : Int → S → Res S} {P : S → Prop} (Iv : Nat → S → Prop) {a b : Nat} {s : S} (hab : a ≤ b) (h0 : Iv a s) (step : ∀ (k : Nat) s, a ≤ k → k < b → Iv k s → Ok (f (k : Int) s) (Iv (k + 1))) (post : ∀ s, Iv b s → P s) : Ok (forS f (rng (a : Int) (b : Int)) s) P := by
  refine ok_forS (fun k s => Iv k.toNat s) (by omega) (by simpa using h0) (fun k s h1 h2 i => ?_) (fun s i => post s (by simpa using i))
  obtain ⟨n, rfl⟩ : ∃ n : Nat, k = (n : Int) := ⟨k.toNat, by omega⟩
  have e : ((n : Int) + 1).toNat = n + 1 := by omega
  rw [e]
  rw [Int.toNat_natCast] at i
  exact step n s (by omega) (by omega) i
/-- a loop over any list -/
theorem ok_forL {f : α → S → Res S} {P : S → Prop} (Iv : List α → S → Prop) {xs : List α} {s : S} (h0 : Iv xs s) (step : ∀ x ys s, Iv (x :: ys) s → Ok (f x s) (Iv ys)) (post : ∀ s, Iv [] s → P s) : Ok (forS f xs s) P := by
  induction xs generalizing s with
  | nil => exact ⟨s, forS_nil, post s h0⟩
  | cons x xs ih =>
    obtain ⟨s', e, i⟩ := step x xs s h0
    rw [forS_cons, e, Res.bind_ok]
    exact ih i
/-- a loop over any list: what is done so far -/
theorem ok_forA {f : α → S → Res S} {P : S → Prop} (Iv : List α → S → Prop) {xs : List α} {s : S} (h0 : Iv [] s) (step : ∀ done x rest s, xs = done ++ x :: rest → Iv done s → Ok (f x s) (Iv (done ++ [x]))) (post : ∀ s, Iv xs s → P s) : Ok (forS f xs s) P := by
  have main : ∀ (rest done : List α) (s : S), xs = done ++ rest → Iv done s → Ok (forS f rest s) P := by
    intro rest
    induction rest with
    | nil =>
      intro done s e i
      rw [List.append_nil] at e
      subst e
      exact ⟨s, forS_nil, post s i⟩
    | cons x rest ih =>
      intro done s e i
      obtain ⟨s', e', i'⟩ := step done x rest s e i
      rw [forS_cons, e', Res.bind_ok]
      exact ih (done ++ [x]) s' (by rw [e]; simp) i'
  exact main xs [] s rfl h0
/-- with an early way out -/
def Flw (N : S → Prop) (B : S → Prop) (R : ρ → Prop) : Fl ρ S → Prop
  | .nx s => N s
  | .bk s => B s
  | .rt r => R r
def Lpw (N : S → Prop) (R : ρ → Prop) : Lp ρ S → Prop
  | .fin s => N s
  | .ret r => R r
theorem ok_forR {f : Int → S → Res (Fl ρ S)} {b : Int} {P : Lp ρ S → Prop} (Iv : Int → S → Prop) (B : S → Prop) (R : ρ → Prop) {a : Int} {s : S} (hab : a ≤ b) (h0 : Iv a s) (step : ∀ k s, a ≤ k → k < b → Iv k s → Ok (f k s) (Flw (Iv (k + 1)) B R))
    (post : ∀ s, Iv b s → P (.fin s)) (brk : ∀ s, B s → P (.fin s)) (ret : ∀ r, R r → P (.ret r)) : Ok (forR f (rng a b) s) P := by
  have main : ∀ (n : Nat) (k : Int) (s : S), a ≤ k → k + n = b → Iv k s → Ok (forR f (rng k b) s) P := by
    intro n
    induction n with
    | zero =>
      intro k s _ e i
      rw [rng_nil (by omega)]
      have : k = b := by omega
      subst this
      exact ⟨.fin s, forR_nil, post s i⟩
    | succ n ih =>
      intro k s h1 e i
      obtain ⟨y, e', i'⟩ := step k s h1 (by omega) i
      rw [rng_cons (by omega), forR_cons, e', Res.bind_ok]
      cases y with
      | nx s' => exact ih (k + 1) s' (by omega) (by omega) i'
      | bk s' => exact ⟨_, rfl, brk s' i'⟩
      | rt r => exact ⟨_, rfl, ret r i'⟩
  exact main (b - a).toNat a s (Int.le_refl _) (by omega) h0
theorem ok_forRN {f : Int → S → Res (Fl ρ S)} {P : Lp ρ S → Prop} (Iv : Nat → S → Prop) (B : S → Prop) (R : ρ → Prop) {a b : Nat} {s : S} (hab : a ≤ b) (h0 : Iv a s) (step : ∀ (k : Nat) s, a ≤ k → k < b → Iv k s → Ok (f (k : Int) s) (Flw (Iv (k + 1)) B R))
    (post : ∀ s, Iv b s → P (.fin s)) (brk : ∀ s, B s → P (.fin s)) (ret : ∀ r, R r → P (.ret r)) : Ok (forR f (rng (a : Int) (b : Int)) s) P := by
  refine ok_forR (fun k s => Iv k.toNat s) B R (by omega) (by simpa using h0) (fun k s h1 h2 i => ?_) (fun s i => post s (by simpa using i)) brk ret
  obtain ⟨n, rfl⟩ : ∃ n : Nat, k = (n : Int) := ⟨k.toNat, by omega⟩
  have e : ((n : Int) + 1).toNat = n + 1 := by omega
  rw [e]
  rw [Int.toNat_natCast] at i
  exact step n s (by omega) (by omega) i
theorem ok_forRL {f : α → S → Res (Fl ρ S)} {P : Lp ρ S → Prop} (Iv : List α → S → Prop) (B : S → Prop) (R : ρ → Prop) {xs : List α} {s : S} (h0 : Iv xs s) (step : ∀ x ys s, Iv (x :: ys) s → Ok (f x s) (Flw (Iv ys) B R))
    (post : ∀ s, Iv [] s → P (.fin s)) (brk : ∀ s, B s → P (.fin s)) (ret : ∀ r, R r → P (.ret r)) : Ok (forR f xs s) P := by
  induction xs generalizing s with
  | nil => exact ⟨.fin s, forR_nil, post s h0⟩
  | cons x xs ih =>
    obtain ⟨y, e, i⟩ := step x xs s h0
    rw [forR_cons, e, Res.bind_ok]
    cases y with
    | nx s' => exact ih i
    | bk s' => exact ⟨_, rfl, brk s' i⟩
    | rt r => exact ⟨_, rfl, ret r i⟩
/-- while: an invariant and a measure -/
theorem ok_while {c : S → Res Bool} {f : S → Res (Fl ρ S)} {P : Lp ρ S → Prop} (Iv : S → Prop) (μ : S → Nat) {s : S} (h0 : Iv s) (hm : μ s < 100000) (cond : ∀ s, Iv s → Ok (c s) fun b => (b = true → Ok (f s) (Flw (fun s' => Iv s' ∧ μ s' < μ s) (fun s' => P (.fin s')) (fun r => P (.ret r)))) ∧ (b = false → P (.fin s))) : Ok (whileR c f fuel s) P := by
  rw [fuel_eq]
  have main : ∀ (n : Nat) (s : S), Iv s → μ s < n → Ok (whileR c f n s) P := by
    intro n
    induction n with
    | zero => exact fun s _ h => absurd h (Nat.not_lt_zero _)
    | succ n ih =>
      intro s i hm
      obtain ⟨b, e, h1, h2⟩ := cond s i
      rw [whileR_succ, e, Res.bind_ok]
      cases b with
      | false => exact ⟨_, by rw [if_neg (by decide)], h2 rfl⟩
      | true =>
        obtain ⟨y, e', i'⟩ := h1 rfl
        rw [if_pos rfl, e', Res.bind_ok]
        cases y with
        | nx s' => exact ih s' i'.1 (by have := i'.2; omega)
        | bk s' => exact ⟨_, rfl, i'⟩
        | rt r => exact ⟨_, rfl, i'⟩
  exact main _ s h0 hm
theorem ok_whileP {c : S → Res Bool} {f : S → Res (Fl ρ S)} {P : Lp ρ S → Prop} (Iv Post : S → Prop) (μ : S → Nat) {s : S} (h0 : Iv s) (hm : μ s < 100000) (cond : ∀ s, Iv s → Ok (c s) fun b => (b = true → Ok (f s) (Flw (fun s' => Iv s' ∧ μ s' < μ s) Post (fun _ => False))) ∧ (b = false → Post s))
    (post : ∀ s, Post s → P (.fin s)) : Ok (whileR c f fuel s) P := by
  refine ok_while Iv μ h0 hm fun s i => ?_
  refine ok_mono (cond s i) fun b h => ⟨fun e => ok_mono (h.1 e) fun y hy => ?_, fun e => post s (h.2 e)⟩
  cases y with
  | nx s' => exact hy
  | bk s' => exact post s' hy
  | rt r => exact hy.elim
/-! slices by whole numbers -/
theorem cutI {xs : List α} {i j : Int} (hi : 0 ≤ i) (hj : 0 ≤ j) : cutL xs (some i) (some j) = (xs.drop i.toNat).take (j.toNat - i.toNat) := by
  have e1 : ((i.toNat : Nat) : Int) = i := by omega
  have e2 : ((j.toNat : Nat) : Int) = j := by omega
  have := cut_mid xs i.toNat j.toNat
  rw [e1, e2] at this
  exact this
theorem cutTo {xs : List α} {j : Int} (hj : 0 ≤ j) : cutL xs none (some j) = xs.take j.toNat := by
  have e2 : ((j.toNat : Nat) : Int) = j := by omega
  have := cut_to xs j.toNat
  rw [e2] at this
  exact this
theorem cutFrom {xs : List α} {j : Int} (hj : 0 ≤ j) : cutL xs (some j) none = xs.drop j.toNat := by
  have e2 : ((j.toNat : Nat) : Int) = j := by omega
  have := cut_from xs j.toNat
  rw [e2] at this
  exact this
end
/-! whole and natural numbers -/
theorem tn_c (a : Nat) : ((a : Nat) : Int).toNat = a := Int.toNat_natCast a
theorem tn_add (a b : Nat) : ((a : Int) + (b : Int)).toNat = a + b := by omega
theorem tn_add1 (a : Nat) : ((a : Int) + 1).toNat = a + 1 := by omega
theorem tn_sub (a b : Nat) : ((a : Int) - (b : Int)).toNat = a - b := by omega
theorem tn_sub1 (a : Nat) : ((a : Int) - 1).toNat = a - 1 := by omega
theorem sing {a b : Nat} : ([a] : Tx) = [b] ↔ a = b := by simp
end M
namespace G
open PySem M
abbrev O_Polynomial : Type := Ob "Polynomial" ["coefficients"] ((TupL Int) × Unit)
def is_OutOfBounds (e : Exn) : Res Bool := if e.cls = "OutOfBounds" then .ok true else if e.cls = "TooMany" then .ok false else .bad
def is_TooMany (e : Exn) : Res Bool := if e.cls = "OutOfBounds" then .ok false else if e.cls = "TooMany" then .ok true else .bad
def is_WordError (e : Exn) : Res Bool := if e.cls = "OutOfBounds" then .ok true else if e.cls = "TooMany" then .ok true else .bad
noncomputable def m_check_range (value : Int) (low : Int) (high : Int) : Res Unit :=
  (if ((decide (value < low)) || (decide (value > high))) = true then .exc ⟨"OutOfBounds", [("value", enc value)]⟩ else .ok ())

noncomputable def m_check_many (things : (SeqL Int)) (most : Int) : Res Unit :=
  (if (decide (((things.l.length : Nat) : Int) > most)) = true then .exc ⟨"TooMany", [("most", enc most)]⟩ else .ok ())

noncomputable def m_Polynomial___init (coefficients : (List Int)) : Res ((TupL Int) × Unit) :=
  Res.bind (m_check_many (SeqL.mk coefficients) (100 : Int)) fun (t1 : Unit) => Res.bind (.ok ((coefficients.length : Nat) : Int)) fun (size : Int) => Res.bind (whileR (fun (s : Int) => match s with | size => Res.bind (if (decide (size > (0 : Int))) = true then (Res.bind (lGet coefficients (size - (1 : Int))) fun (t2 : Int) => (.ok (decide (t2 = (0 : Int))))) else .ok false) fun (b3 : Bool) => .ok b3) (fun (s : Int) => match s with | size => Res.bind (.ok (size - (1 : Int))) fun (size : Int) => .ok (.nx size)) fuel size) fun (y : Lp (Unit × (Obw "Polynomial" ["coefficients"] ((TupL Int) × Unit))) Int) => match y with | .ret r => .bad | .fin s => match s with | size => Res.bind (.ok (TupL.mk (cutL coefficients none (some size)))) fun (q4 : (TupL Int)) => .ok (q4, ())

noncomputable def m_Polynomial___init___v2 (coefficients : (TupL Int)) : Res ((TupL Int) × Unit) :=
  Res.bind (m_check_many (SeqL.mk coefficients.l) (100 : Int)) fun (t1 : Unit) => Res.bind (.ok ((coefficients.l.length : Nat) : Int)) fun (size : Int) => Res.bind (whileR (fun (s : Int) => match s with | size => Res.bind (if (decide (size > (0 : Int))) = true then (Res.bind (lGet coefficients.l (size - (1 : Int))) fun (t2 : Int) => (.ok (decide (t2 = (0 : Int))))) else .ok false) fun (b3 : Bool) => .ok b3) (fun (s : Int) => match s with | size => Res.bind (.ok (size - (1 : Int))) fun (size : Int) => .ok (.nx size)) fuel size) fun (y : Lp (Unit × (Obw "Polynomial" ["coefficients"] ((TupL Int) × Unit))) Int) => match y with | .ret r => .bad | .fin s => match s with | size => Res.bind (.ok (TupL.mk (cutL coefficients.l none (some size)))) fun (q4 : (TupL Int)) => .ok (q4, ())

noncomputable def m_Polynomial_power (exponent : Int) : Res O_Polynomial :=
  Res.bind (m_check_range exponent (0 : Int) ((100 : Int) - (1 : Int))) fun (t1 : Unit) => Res.bind (lRep [(0 : Int)] exponent) fun (t2 : (List Int)) => Res.bind (lCat t2 [(1 : Int)]) fun (t3 : (List Int)) => Res.bind (m_Polynomial___init t3) fun (t4 : (TupL Int) × Unit) => .ok (Ob.mk t4 : O_Polynomial)

noncomputable def m_Polynomial_degree (self : O_Polynomial) : Res Int :=
  .ok (((self.v.1.l.length : Nat) : Int) - (1 : Int))

noncomputable def m_Polynomial___eq (self : O_Polynomial) (other : O_Polynomial) : Res Bool :=
  (if true = true then Res.bind (eqD self.v.1 other.v.1) fun (t1 : Bool) => .ok t1 else .ok false)

noncomputable def m_Polynomial___eq___v2 (self : O_Polynomial) (other : (TupL Int)) : Res Bool :=
  (if false = true then .bad else .ok false)

noncomputable def m_Polynomial___add (self : O_Polynomial) (other : O_Polynomial) : Res O_Polynomial :=
  Res.bind (.ok (max ((self.v.1.l.length : Nat) : Int) ((other.v.1.l.length : Nat) : Int))) fun (size : Int) => Res.bind (rngR 0 size) fun xs1 => Res.bind (lcM (fun (__ : Int) => .ok (0 : Int)) xs1) fun (ys2 : List Int) => Res.bind (forS (fun (p3 : (Int × Int)) (s : (List Int)) => match s with | total => Res.bind (lSet total p3.1 p3.2) fun (total : (List Int)) => .ok total) (enumL self.v.1.l) ys2) fun (s : (List Int)) => match s with | total => Res.bind (forS (fun (p5 : (Int × Int)) (s : (List Int)) => match s with | total => Res.bind (Res.bind (lGet total p5.1) fun (t6 : Int) => (.ok (t6 + p5.2))) fun (t7 : Int) => Res.bind (lSet total p5.1 t7) fun (total : (List Int)) => .ok total) (enumL other.v.1.l) total) fun (s : (List Int)) => match s with | total => Res.bind (m_Polynomial___init total) fun (t10 : (TupL Int) × Unit) => .ok (Ob.mk t10 : O_Polynomial)

noncomputable def m_Polynomial___sub (self : O_Polynomial) (other : O_Polynomial) : Res O_Polynomial :=
  Res.bind (.ok (max ((self.v.1.l.length : Nat) : Int) ((other.v.1.l.length : Nat) : Int))) fun (size : Int) => Res.bind (rngR 0 size) fun xs1 => Res.bind (lcM (fun (__ : Int) => .ok (0 : Int)) xs1) fun (ys2 : List Int) => Res.bind (forS (fun (p3 : (Int × Int)) (s : (List Int)) => match s with | total => Res.bind (lSet total p3.1 p3.2) fun (total : (List Int)) => .ok total) (enumL self.v.1.l) ys2) fun (s : (List Int)) => match s with | total => Res.bind (forS (fun (p5 : (Int × Int)) (s : (List Int)) => match s with | total => Res.bind (Res.bind (lGet total p5.1) fun (t6 : Int) => (.ok (t6 - p5.2))) fun (t7 : Int) => Res.bind (lSet total p5.1 t7) fun (total : (List Int)) => .ok total) (enumL other.v.1.l) total) fun (s : (List Int)) => match s with | total => Res.bind (m_Polynomial___init total) fun (t10 : (TupL Int) × Unit) => .ok (Ob.mk t10 : O_Polynomial)

noncomputable def m_Polynomial___mul (self : O_Polynomial) (other : O_Polynomial) : Res O_Polynomial :=
  Res.bind (.ok ((((self.v.1.l.length : Nat) : Int) + ((other.v.1.l.length : Nat) : Int)) - (1 : Int))) fun (size : Int) => Res.bind (if ((decide (((self.v.1.l.length : Nat) : Int) = (0 : Int))) || (decide (((other.v.1.l.length : Nat) : Int) = (0 : Int)))) = true then Res.bind (.ok (0 : Int)) fun (size : Int) => .ok size else .ok size) fun (s : Int) => match s with | size => (if (decide (size > (100 : Int))) = true then .exc ⟨"TooMany", [("most", enc (100 : Int))]⟩ else Res.bind (rngR 0 size) fun xs1 => Res.bind (lcM (fun (__ : Int) => .ok (0 : Int)) xs1) fun (ys2 : List Int) => Res.bind (forS (fun (p3 : (Int × Int)) (s : (List Int)) => match s with | total => Res.bind (forS (fun (p4 : (Int × Int)) (s : (List Int)) => match s with | total => Res.bind (Res.bind (lGet total (p3.1 + p4.1)) fun (t5 : Int) => Res.bind (mulI p3.2 p4.2) fun (t6 : Int) => (.ok (t5 + t6))) fun (t7 : Int) => Res.bind (lSet total (p3.1 + p4.1) t7) fun (total : (List Int)) => .ok total) (enumL other.v.1.l) total) fun (s : (List Int)) => match s with | total => .ok total) (enumL self.v.1.l) ys2) fun (s : (List Int)) => match s with | total => Res.bind (m_Polynomial___init total) fun (t11 : (TupL Int) × Unit) => .ok (Ob.mk t11 : O_Polynomial))

noncomputable def m_Polynomial_value_at (self : O_Polynomial) (number : Int) : Res Int :=
  Res.bind (m_check_range number (-(1000 : Int)) (1000 : Int)) fun (t1 : Unit) => Res.bind (.ok (0 : Int)) fun (value : Int) => Res.bind (forS (fun (coefficient : Int) (s : Int) => match s with | value => Res.bind (Res.bind (mulI value number) fun (t2 : Int) => (.ok (t2 + coefficient))) fun (value : Int) => .ok value) (List.reverse self.v.1.l) value) fun (s : Int) => match s with | value => .ok value

noncomputable def m_law_mix (cell : Int) (k_ : Int) : Res Int :=
  Res.bind (Res.bind (Res.bind (Res.bind (Res.bind (mulI cell (48271 : Int)) fun (t1 : Int) => Res.bind (mulI k_ (69621 : Int)) fun (t2 : Int) => (.ok (t1 + t2))) fun (t3 : Int) => (.ok (t3 + (4951 : Int)))) fun (t4 : Int) => .ok t4) fun (t5 : Int) => (modI t5 (2147483647 : Int))) fun (one : Int) => Res.bind (Res.bind (Res.bind (Res.bind (Res.bind (mulI one one) fun (t6 : Int) => Res.bind (mulI k_ (40692 : Int)) fun (t7 : Int) => (.ok (t6 + t7))) fun (t8 : Int) => (.ok (t8 + (7 : Int)))) fun (t9 : Int) => .ok t9) fun (t10 : Int) => (modI t10 (2147483399 : Int))) fun (two : Int) => Res.bind (Res.bind (Res.bind (Res.bind (Res.bind (mulI two two) fun (t11 : Int) => (.ok (t11 + one))) fun (t12 : Int) => .ok t12) fun (t13 : Int) => (modI t13 (2147483629 : Int))) fun (t14 : Int) => (divI t14 (61 : Int))) fun (t15 : Int) => .ok t15

noncomputable def m_law_pool (script : Scr) : Res (List Int) :=
  Res.bind (.ok ([] : List Int)) fun (pool : (List Int)) => Res.bind (.ok (7 : Int)) fun (total : Int) => Res.bind (rngR 0 (min (63 : Int) ((script.l.length : Nat) : Int))) fun xs1 => Res.bind (forS (fun (at_ : Int) (s : (List Int) × Int) => match s with | (pool, total) => Res.bind (Res.bind (Res.bind (.ok at_) fun (t2 : Int) => lGet script.l t2) fun (t3 : Int) => .ok t3) fun (cell : Int) => Res.bind (Res.bind (Res.bind (modI cell (1000003 : Int)) fun (t4 : Int) => (mulI (at_ + (1 : Int)) t4)) fun (t5 : Int) => (.ok (total + t5))) fun (total : Int) => Res.bind (modI (if cell < 0 then -cell else cell) (902722635735186226016017511669692511249051163505960854016567747379468913400983697937763300665434196528518906133967398509741886620279594406968057142252891362345034703238594560000000000000000000000000000000000000000000000000000000000000000 : Int)) fun (left : Int) => Res.bind (if (decide ((if cell < 0 then -cell else cell) < (1000000000000000000 : Int))) = true then Res.bind (rngR 0 (8 : Int)) fun xs7 => Res.bind (lcM (fun (k_ : Int) => Res.bind (Res.bind (mulI (8 : Int) at_) fun (t8 : Int) => (.ok (t8 + k_))) fun (t9 : Int) => Res.bind (noX (m_law_mix cell t9)) fun (t10 : Int) => .ok t10) xs7) fun (ys11 : List Int) => Res.bind (lCat pool ys11) fun (pool : (List Int)) => Res.bind (.ok (0 : Int)) fun (left : Int) => .ok (pool, left) else .ok (pool, left)) fun (s : (List Int) × Int) => match s with | (pool, left) => Res.bind (rngR 0 (64 : Int)) fun xs12 => Res.bind (forS (fun (k_ : Int) (s : (List Int) × Int) => match s with | (pool, left) => Res.bind (if (decide (left > (0 : Int))) = true then Res.bind (modI left (5040 : Int)) fun (t14 : Int) => Res.bind (lApp pool t14) fun (pool : (List Int)) => Res.bind (divI left (5040 : Int)) fun (left : Int) => .ok (pool, left) else .ok (pool, left)) fun (s : (List Int) × Int) => match s with | (pool, left) => .ok (pool, left)) xs12 (pool, left)) fun (s : (List Int) × Int) => match s with | (pool, left) => .ok (pool, total)) xs1 (pool, total)) fun (s : (List Int) × Int) => match s with | (pool, total) => Res.bind (rngR 0 (200 : Int)) fun xs18 => Res.bind (lcM (fun (k_ : Int) => Res.bind (noX (m_law_mix total ((504 : Int) + k_))) fun (t19 : Int) => .ok t19) xs18) fun (ys20 : List Int) => Res.bind (lCat pool ys20) fun (pool : (List Int)) => .ok (List.reverse pool)

noncomputable def m_law_take (pool : (List Int)) (size : Int) : Res (Int × (List Int)) :=
  (if (decide (((pool.length : Nat) : Int) = (0 : Int))) = true then .ok ((0 : Int), pool) else Res.bind (lPop pool) fun (y2 : Int × (List Int)) => Res.bind (.ok y2.1) fun (t3 : Int) => Res.bind (modI t3 size) fun (t4 : Int) => .ok (t4, y2.2))

noncomputable def m_law_number (pool : (List Int)) : Res (Int × (List Int)) :=
  Res.bind (m_law_take pool (5 : Int)) fun (t2 : Int × (List Int)) => (if (decide (t2.1 = (0 : Int))) = true then .ok ((0 : Int), t2.2) else (if (decide (t2.1 < (3 : Int))) = true then Res.bind (m_law_take t2.2 (9 : Int)) fun (t4 : Int × (List Int)) => Res.bind (.ok (t4.1 - (4 : Int))) fun (t5 : Int) => .ok (t5, t4.2) else Res.bind (m_law_take t2.2 (5039 : Int)) fun (t7 : Int × (List Int)) => Res.bind (.ok ((1 : Int) + t7.1)) fun (t8 : Int) => Res.bind (m_law_take t7.2 (8 : Int)) fun (t11 : Int × (List Int)) => Res.bind (rngR 0 t11.1) fun xs9 => Res.bind (forS (fun (k_ : Int) (s : (List Int) × Int) => match s with | (pool, number) => Res.bind (mulI number (5040 : Int)) fun (t12 : Int) => Res.bind (m_law_take pool (5040 : Int)) fun (t14 : Int × (List Int)) => Res.bind (.ok (t12 + t14.1)) fun (t15 : Int) => .ok (t14.2, t15)) xs9 (t11.2, t8)) fun (s : (List Int) × Int) => match s with | (pool, number) => (if (decide (t2.1 = (3 : Int))) = true then .ok (((0 : Int) - number), pool) else .ok (number, pool))))

noncomputable def m_law_list (pool : (List Int)) : Res ((List Int) × (List Int)) :=
  Res.bind (m_law_take pool (10 : Int)) fun (t3 : Int × (List Int)) => Res.bind (rngR 0 t3.1) fun xs1 => Res.bind (lcS (fun (k_ : Int) (s4 : (List Int)) => Res.bind (noX (m_law_number s4)) fun (t6 : Int × (List Int)) => .ok (t6.1, t6.2)) xs1 t3.2) fun (ys7 : List Int × (List Int)) => Res.bind (m_law_take ys7.2 (4 : Int)) fun (t10 : Int × (List Int)) => Res.bind (rngR 0 t10.1) fun xs8 => Res.bind (lcM (fun (k_ : Int) => .ok (0 : Int)) xs8) fun (ys11 : List Int) => Res.bind (lCat ys7.1 ys11) fun (t12 : (List Int)) => .ok (t12, t10.2)

noncomputable def m_law_long (pool : (List Int)) (size : Int) : Res ((List Int) × (List Int)) :=
  Res.bind (m_law_take pool (96 : Int)) fun (t2 : Int × (List Int)) => Res.bind (.ok ((1 : Int) + t2.1)) fun (t3 : Int) => Res.bind (m_law_take t2.2 (97 : Int)) fun (t5 : Int × (List Int)) => Res.bind (rngR 0 (size - (1 : Int))) fun xs6 => Res.bind (lcM (fun (k_ : Int) => Res.bind (Res.bind (Res.bind (Res.bind (Res.bind (mulI t3 k_) fun (t8 : Int) => Res.bind (Res.bind (divI k_ (3 : Int)) fun (t7 : Int) => (mulI t5.1 t7)) fun (t9 : Int) => (.ok (t8 + t9))) fun (t10 : Int) => .ok t10) fun (t11 : Int) => (modI t11 (7 : Int))) fun (t12 : Int) => (.ok (t12 - (3 : Int)))) fun (t13 : Int) => .ok t13) xs6) fun (ys14 : List Int) => Res.bind (m_law_take t5.2 (9 : Int)) fun (t16 : Int × (List Int)) => Res.bind (.ok ((1 : Int) + t16.1)) fun (t17 : Int) => Res.bind (lCat ys14 [t17]) fun (t18 : (List Int)) => .ok (t18, t16.2)

noncomputable def m_law_trimmed (row : (List Int)) : Res (List Int) :=
  Res.bind (.ok (0 : Int)) fun (size : Int) => Res.bind (rngR 0 ((row.length : Nat) : Int)) fun xs1 => Res.bind (forS (fun (k_ : Int) (s : Int) => match s with | size => Res.bind (Res.bind (lGet row k_) fun (t2 : Int) => (.ok (!decide (t2 = (0 : Int))))) fun b3 => Res.bind (if b3 = true then Res.bind (.ok (k_ + (1 : Int))) fun (size : Int) => .ok size else .ok size) fun (s : Int) => match s with | size => .ok size) xs1 size) fun (s : Int) => match s with | size => .ok (cutL row none (some size))

noncomputable def m_law_plus (one : (List Int)) (two : (List Int)) (sign : Int) : Res (List Int) :=
  Res.bind (.ok (max ((one.length : Nat) : Int) ((two.length : Nat) : Int))) fun (size : Int) => Res.bind (rngR 0 (size - ((one.length : Nat) : Int))) fun xs1 => Res.bind (lcM (fun (k_ : Int) => .ok (0 : Int)) xs1) fun (ys2 : List Int) => Res.bind (lCat one ys2) fun (t3 : (List Int)) => Res.bind (rngR 0 (size - ((two.length : Nat) : Int))) fun xs4 => Res.bind (lcM (fun (k_ : Int) => .ok (0 : Int)) xs4) fun (ys5 : List Int) => Res.bind (lCat two ys5) fun (t6 : (List Int)) => Res.bind (rngR 0 size) fun xs7 => Res.bind (lcM (fun (k_ : Int) => Res.bind (Res.bind (lGet t3 k_) fun (t9 : Int) => Res.bind (Res.bind (lGet t6 k_) fun (t8 : Int) => (mulI sign t8)) fun (t10 : Int) => (.ok (t9 + t10))) fun (t11 : Int) => .ok t11) xs7) fun (ys12 : List Int) => Res.bind (m_law_trimmed ys12) fun (t13 : (List Int)) => .ok t13

noncomputable def m_law_times (one : (List Int)) (two : (List Int)) : Res (List Int) :=
  Res.bind (rngR 0 (((one.length : Nat) : Int) + ((two.length : Nat) : Int))) fun xs1 => Res.bind (lcM (fun (k_ : Int) => .ok (0 : Int)) xs1) fun (ys2 : List Int) => Res.bind (rngR 0 ((one.length : Nat) : Int)) fun xs3 => Res.bind (forS (fun (i : Int) (s : (List Int)) => match s with | row => Res.bind (rngR 0 ((two.length : Nat) : Int)) fun xs4 => Res.bind (forS (fun (j : Int) (s : (List Int)) => match s with | row => Res.bind (Res.bind (lGet row (i + j)) fun (t7 : Int) => Res.bind (Res.bind (lGet one i) fun (t5 : Int) => Res.bind (lGet two j) fun (t6 : Int) => (mulI t5 t6)) fun (t8 : Int) => (.ok (t7 + t8))) fun (t9 : Int) => Res.bind (lSet row (i + j) t9) fun (row : (List Int)) => .ok row) xs4 row) fun (s : (List Int)) => match s with | row => .ok row) xs3 ys2) fun (s : (List Int)) => match s with | row => Res.bind (m_law_trimmed row) fun (t12 : (List Int)) => .ok t12

noncomputable def m_law_value (row : (List Int)) (number : Int) : Res Int :=
  Res.bind (.ok (0 : Int)) fun (total : Int) => Res.bind (.ok (1 : Int)) fun (power : Int) => Res.bind (forS (fun (one : Int) (s : Int × Int) => match s with | (total, power) => Res.bind (Res.bind (mulI one power) fun (t1 : Int) => (.ok (total + t1))) fun (total : Int) => Res.bind (mulI power number) fun (power : Int) => .ok (total, power)) row (total, power)) fun (s : Int × Int) => match s with | (total, power) => .ok total

noncomputable def m_law_whole (told : Int) : Res Bool :=
  .ok (true && (!false))

noncomputable def m_law_is (told : O_Polynomial) (due : (List Int)) : Res Bool :=
  (if (!true) = true then .ok false else (if ((!true) || (!decide (((told.v.1.l.length : Nat) : Int) = ((due.length : Nat) : Int)))) = true then .ok false else Res.bind (rngR 0 ((due.length : Nat) : Int)) fun xs1 => Res.bind (forR (fun (k_ : Int) (s : Unit) => Res.bind (Res.bind (lGet told.v.1.l k_) fun (t2 : Int) => Res.bind (m_law_whole t2) fun (t3 : Bool) => (if (!t3) = true then .ok (true, ()) else Res.bind (Res.bind (lGet told.v.1.l k_) fun (t4 : Int) => Res.bind (lGet due k_) fun (t5 : Int) => (.ok (!decide (t4 = t5)))) fun (b6 : Bool) => .ok (b6, ()))) fun (s : Bool × Unit) => match s with | (b7, _) => (if b7 = true then .ok (.rt false) else .ok (.nx ()))) xs1 ()) fun (y : Lp Bool Unit) => match y with | .ret r => .ok r | .fin s => Res.bind (noX (m_Polynomial_degree told)) fun (t9 : Int) => Res.bind (m_law_whole t9) fun (t10 : Bool) => (if t10 = true then Res.bind (noX (m_Polynomial_degree told)) fun (t11 : Int) => .ok (decide (t11 = (((due.length : Nat) : Int) - (1 : Int)))) else .ok false)))

noncomputable def m_law_given_refused (row : (List Int)) : Res Bool :=
  Res.bind (Res.catch (Res.bind (m_Polynomial___init row) fun (t2 : (TupL Int) × Unit) => .ok (.fin ())) (fun (xe1 : Exn) => Res.bind (is_TooMany xe1) fun (b1_0 : Bool) => (if b1_0 = true then Res.bind (Res.bind (is_WordError xe1) fun b8 => if b8 = true then (Res.bind (Res.bind (is_OutOfBounds xe1) fun b => .ok (!b)) fun b7 => if b7 = true then (Res.bind (fldI "TooMany" "most" xe1) fun (t6 : Int) => (.ok (decide (t6 = (100 : Int))))) else .ok false) else .ok false) fun (t9 : Bool) => .ok (.ret t9) else Res.bind (is_WordError xe1) fun (b1_1 : Bool) => (if b1_1 = true then .ok (.ret false) else .bad)))) fun (y : Lp Bool Unit) => match y with | .ret r => .ok r | .fin s => .ok false

noncomputable def m_law_product_refused (one : O_Polynomial) (two : O_Polynomial) : Res Bool :=
  Res.bind (Res.catch (Res.bind (m_Polynomial___mul one two) fun (t2 : O_Polynomial) => .ok (.fin ())) (fun (xe1 : Exn) => Res.bind (is_TooMany xe1) fun (b1_0 : Bool) => (if b1_0 = true then Res.bind (Res.bind (is_WordError xe1) fun b8 => if b8 = true then (Res.bind (Res.bind (is_OutOfBounds xe1) fun b => .ok (!b)) fun b7 => if b7 = true then (Res.bind (fldI "TooMany" "most" xe1) fun (t6 : Int) => (.ok (decide (t6 = (100 : Int))))) else .ok false) else .ok false) fun (t9 : Bool) => .ok (.ret t9) else Res.bind (is_WordError xe1) fun (b1_1 : Bool) => (if b1_1 = true then .ok (.ret false) else .bad)))) fun (y : Lp Bool Unit) => match y with | .ret r => .ok r | .fin s => .bad

noncomputable def m_law_power_refused (exponent : Int) : Res Bool :=
  Res.bind (Res.catch (Res.bind (m_Polynomial_power exponent) fun (t2 : O_Polynomial) => .ok (.fin ())) (fun (xe1 : Exn) => Res.bind (is_OutOfBounds xe1) fun (b1_0 : Bool) => (if b1_0 = true then Res.bind (Res.bind (is_WordError xe1) fun b8 => if b8 = true then (Res.bind (Res.bind (is_TooMany xe1) fun b => .ok (!b)) fun b7 => if b7 = true then (Res.bind (fldI "OutOfBounds" "value" xe1) fun (t6 : Int) => (.ok (decide (t6 = exponent)))) else .ok false) else .ok false) fun (t9 : Bool) => .ok (.ret t9) else Res.bind (is_WordError xe1) fun (b1_1 : Bool) => (if b1_1 = true then .ok (.ret false) else .bad)))) fun (y : Lp Bool Unit) => match y with | .ret r => .ok r | .fin s => .ok false

noncomputable def m_law_value_refused (told : O_Polynomial) (number : Int) : Res Bool :=
  Res.bind (Res.catch (Res.bind (m_Polynomial_value_at told number) fun (t2 : Int) => .ok (.fin ())) (fun (xe1 : Exn) => Res.bind (is_OutOfBounds xe1) fun (b1_0 : Bool) => (if b1_0 = true then Res.bind (Res.bind (is_WordError xe1) fun b8 => if b8 = true then (Res.bind (Res.bind (is_TooMany xe1) fun b => .ok (!b)) fun b7 => if b7 = true then (Res.bind (fldI "OutOfBounds" "value" xe1) fun (t6 : Int) => (.ok (decide (t6 = number)))) else .ok false) else .ok false) fun (t9 : Bool) => .ok (.ret t9) else Res.bind (is_WordError xe1) fun (b1_1 : Bool) => (if b1_1 = true then .ok (.ret false) else .bad)))) fun (y : Lp Bool Unit) => match y with | .ret r => .ok r | .fin s => .ok false

noncomputable def m_law_sums (one : O_Polynomial) (left : (List Int)) (two : O_Polynomial) (right : (List Int)) : Res Bool :=
  Res.bind (m_Polynomial___add one two) fun (t1 : O_Polynomial) => Res.bind (m_law_plus left right (1 : Int)) fun (t2 : (List Int)) => Res.bind (m_law_is t1 t2) fun (t3 : Bool) => (if (!t3) = true then .ok false else Res.bind (m_Polynomial___sub one two) fun (t4 : O_Polynomial) => Res.bind (m_law_plus left right (-1 : Int)) fun (t5 : (List Int)) => Res.bind (m_law_is t4 t5) fun (t6 : Bool) => (if (!t6) = true then .ok false else Res.bind (m_Polynomial___sub two one) fun (t7 : O_Polynomial) => Res.bind (m_law_plus right left (-1 : Int)) fun (t8 : (List Int)) => Res.bind (m_law_is t7 t8) fun (t9 : Bool) => (if (!t9) = true then .ok false else Res.bind (m_Polynomial___mul one two) fun (t10 : O_Polynomial) => Res.bind (m_law_times left right) fun (t11 : (List Int)) => Res.bind (m_law_is t10 t11) fun (t12 : Bool) => (if (!t12) = true then .ok false else Res.bind (m_law_is one left) fun (t13 : Bool) => (if t13 = true then Res.bind (m_law_is two right) fun (t14 : Bool) => .ok t14 else .ok false)))))

noncomputable def m_law_values (told : O_Polynomial) (row : (List Int)) (numbers : (List Int)) : Res Bool :=
  Res.bind (forR (fun (number : Int) (s : Unit) => Res.bind (m_Polynomial_value_at told number) fun (t1 : Int) => Res.bind (Res.bind (m_law_whole t1) fun (t2 : Bool) => (if (!t2) = true then .ok (true, ()) else Res.bind (m_law_value row number) fun (t3 : Int) => .ok ((!decide (t1 = t3)), ()))) fun (s : Bool × Unit) => match s with | (b4, _) => (if b4 = true then .ok (.rt false) else .ok (.nx ()))) numbers ()) fun (y : Lp Bool Unit) => match y with | .ret r => .ok r | .fin s => .ok true

noncomputable def m_law_unlike (told : O_Polynomial) (row : (List Int)) : Res Bool :=
  Res.bind (Res.bind (lCat row [(0 : Int), (0 : Int)]) fun (t1 : (List Int)) => Res.bind (m_Polynomial___init t1) fun (t2 : (TupL Int) × Unit) => Res.bind (m_Polynomial___eq told (Ob.mk t2 : O_Polynomial)) fun (t3 : Bool) => (if (!t3) = true then .ok (true, ()) else Res.bind (lCat row [(0 : Int)]) fun (t4 : (List Int)) => Res.bind (m_Polynomial___init t4) fun (t5 : (TupL Int) × Unit) => Res.bind (m_Polynomial___eq told (Ob.mk t5 : O_Polynomial)) fun (t6 : Bool) => .ok ((!t6), ()))) fun (s : Bool × Unit) => match s with | (b7, _) => (if b7 = true then .ok false else Res.bind (rngR 0 ((row.length : Nat) : Int)) fun xs8 => Res.bind (forR (fun (k_ : Int) (s : Unit) => Res.bind (Res.bind (lGet row k_) fun (t9 : Int) => (.ok (t9 + (1 : Int)))) fun (t10 : Int) => Res.bind (lSet row k_ t10) fun (other : (List Int)) => Res.bind (Res.bind (m_Polynomial___init other) fun (t12 : (TupL Int) × Unit) => Res.bind (m_Polynomial___eq told (Ob.mk t12 : O_Polynomial)) fun (t13 : Bool) => (if t13 = true then .ok (true, ()) else Res.bind (m_Polynomial___init other) fun (t15 : (TupL Int) × Unit) => Res.bind (m_Polynomial___eq told (Ob.mk t15 : O_Polynomial)) fun (t16 : Bool) => .ok ((!(!t16)), ()))) fun (s : Bool × Unit) => match s with | (b17, _) => (if b17 = true then .ok (.rt false) else .ok (.nx ()))) xs8 ()) fun (y : Lp Bool Unit) => match y with | .ret r => .ok r | .fin s => Res.bind (Res.bind (lCat row [(1 : Int)]) fun (t19 : (List Int)) => Res.bind (m_Polynomial___init t19) fun (t20 : (TupL Int) × Unit) => Res.bind (m_Polynomial___eq told (Ob.mk t20 : O_Polynomial)) fun (t21 : Bool) => (if t21 = true then .ok (true, ()) else Res.bind (lCat [(1 : Int)] row) fun (t22 : (List Int)) => Res.bind (m_Polynomial___init t22) fun (t23 : (TupL Int) × Unit) => Res.bind (m_Polynomial___eq told (Ob.mk t23 : O_Polynomial)) fun (t24 : Bool) => .ok (t24, ()))) fun (s : Bool × Unit) => match s with | (b25, _) => (if b25 = true then .ok false else Res.bind (m_Polynomial___eq___v2 told (TupL.mk row)) fun (t26 : Bool) => .ok (!t26)))

noncomputable def m_law_bounds (pool : (List Int)) (told : O_Polynomial) : Res (Bool × (List Int)) :=
  Res.bind (m_law_take pool (5040 : Int)) fun (t2 : Int × (List Int)) => Res.bind (.ok ((1001 : Int) + t2.1)) fun (t3 : Int) => Res.bind (forR (fun (number : Int) (s : Unit) => Res.bind (m_law_value_refused told number) fun (t4 : Bool) => (if (!t4) = true then .ok (.rt (false, t2.2)) else .ok (.nx ()))) [(1001 : Int), (-1001 : Int), t3, ((0 : Int) - t3)] ()) fun (y : Lp (Bool × (List Int)) Unit) => match y with | .ret r => .ok r | .fin s => Res.bind (m_law_take t2.2 (100 : Int)) fun (t7 : Int × (List Int)) => Res.bind (forR (fun (exponent : Int) (s : Unit) => Res.bind (m_Polynomial_power exponent) fun (t8 : O_Polynomial) => Res.bind (rngR 0 exponent) fun xs9 => Res.bind (lcM (fun (k_ : Int) => .ok (0 : Int)) xs9) fun (ys10 : List Int) => Res.bind (lCat ys10 [(1 : Int)]) fun (t11 : (List Int)) => Res.bind (m_law_is t8 t11) fun (t12 : Bool) => (if (!t12) = true then .ok (.rt (false, t7.2)) else .ok (.nx ()))) [(0 : Int), (1 : Int), t7.1, (99 : Int)] ()) fun (y : Lp (Bool × (List Int)) Unit) => match y with | .ret r => .ok r | .fin s => Res.bind (forR (fun (exponent : Int) (s : Unit) => Res.bind (m_law_power_refused exponent) fun (t14 : Bool) => (if (!t14) = true then .ok (.rt (false, t7.2)) else .ok (.nx ()))) [(100 : Int), (-1 : Int), ((101 : Int) + t7.1), ((-2 : Int) - t7.1)] ()) fun (y : Lp (Bool × (List Int)) Unit) => match y with | .ret r => .ok r | .fin s => .ok (true, t7.2)

noncomputable def m_law_limits (pool : (List Int)) : Res (Bool × (List Int)) :=
  Res.bind (m_law_take pool (99 : Int)) fun (t2 : Int × (List Int)) => Res.bind (.ok ((2 : Int) + t2.1)) fun (t3 : Int) => Res.bind (m_law_long t2.2 t3) fun (t5 : (List Int) × (List Int)) => Res.bind (m_law_long t5.2 ((101 : Int) - t3)) fun (t7 : (List Int) × (List Int)) => Res.bind (m_law_long t7.2 ((102 : Int) - t3)) fun (t9 : (List Int) × (List Int)) => Res.bind (m_Polynomial___init t5.1) fun (t10 : (TupL Int) × Unit) => Res.bind (.ok (Ob.mk t10 : O_Polynomial)) fun (one : O_Polynomial) => Res.bind (m_Polynomial___init t7.1) fun (t11 : (TupL Int) × Unit) => Res.bind (.ok (Ob.mk t11 : O_Polynomial)) fun (two : O_Polynomial) => Res.bind (m_law_times t5.1 t7.1) fun (t12 : (List Int)) => Res.bind (if (!decide (((t12.length : Nat) : Int) = (100 : Int))) = true then .ok (true, ()) else Res.bind (m_Polynomial___mul one two) fun (t13 : O_Polynomial) => Res.bind (m_law_is t13 t12) fun (t14 : Bool) => .ok ((!t14), ())) fun (s : Bool × Unit) => match s with | (b15, _) => (if b15 = true then .ok (false, t9.2) else Res.bind (m_Polynomial___init t9.1) fun (t16 : (TupL Int) × Unit) => Res.bind (.ok (Ob.mk t16 : O_Polynomial)) fun (three : O_Polynomial) => Res.bind (Res.bind (m_law_product_refused one three) fun (t17 : Bool) => (if (!t17) = true then .ok (true, ()) else Res.bind (m_law_product_refused three one) fun (t18 : Bool) => .ok ((!t18), ()))) fun (s : Bool × Unit) => match s with | (b19, _) => (if b19 = true then .ok (false, t9.2) else Res.bind (Res.bind (m_Polynomial___mul two one) fun (t20 : O_Polynomial) => Res.bind (m_law_is t20 t12) fun (t21 : Bool) => (if (!t21) = true then .ok (true, ()) else Res.bind (m_Polynomial___init [(0 : Int), (0 : Int)]) fun (t22 : (TupL Int) × Unit) => Res.bind (m_Polynomial___mul one (Ob.mk t22 : O_Polynomial)) fun (t23 : O_Polynomial) => Res.bind (m_law_is t23 ([] : List Int)) fun (t24 : Bool) => .ok ((!t24), ()))) fun (s : Bool × Unit) => match s with | (b25, _) => (if b25 = true then .ok (false, t9.2) else Res.bind (m_Polynomial___mul one two) fun (t26 : O_Polynomial) => Res.bind (m_law_values t26 t12 [(-1000 : Int), (1000 : Int)]) fun (t27 : Bool) => (if (!t27) = true then .ok (false, t9.2) else Res.bind (m_law_long t9.2 (100 : Int)) fun (t29 : (List Int) × (List Int)) => Res.bind (Res.bind (m_Polynomial___init t29.1) fun (t30 : (TupL Int) × Unit) => Res.bind (m_law_is (Ob.mk t30 : O_Polynomial) t29.1) fun (t31 : Bool) => (if (!t31) = true then .ok (true, ()) else Res.bind (lCat t29.1 [(0 : Int)]) fun (t32 : (List Int)) => Res.bind (m_law_given_refused t32) fun (t33 : Bool) => .ok ((!t33), ()))) fun (s : Bool × Unit) => match s with | (b34, _) => (if b34 = true then .ok (false, t29.2) else Res.bind (lCat t29.1 [(1 : Int)]) fun (t35 : (List Int)) => Res.bind (m_law_given_refused t35) fun (t36 : Bool) => (if t36 = true then Res.bind (rngR 0 ((101 : Int) + t3)) fun xs37 => Res.bind (lcM (fun (k_ : Int) => .ok (0 : Int)) xs37) fun (ys38 : List Int) => Res.bind (m_law_given_refused ys38) fun (t39 : Bool) => .ok (t39, t29.2) else .ok (false, t29.2)))))))

noncomputable def m_law (script : Scr) : Res Bool :=
  Res.bind (m_law_pool script) fun (t1 : (List Int)) => Res.bind (m_law_list t1) fun (t3 : (List Int) × (List Int)) => Res.bind (m_law_list t3.2) fun (t5 : (List Int) × (List Int)) => Res.bind (m_law_trimmed t3.1) fun (t6 : (List Int)) => Res.bind (m_law_trimmed t5.1) fun (t7 : (List Int)) => Res.bind (m_Polynomial___init t3.1) fun (t9 : (TupL Int) × Unit) => Res.bind (.ok (Ob.mk t9 : O_Polynomial)) fun (one : O_Polynomial) => Res.bind (neD t3.1 t3.1) fun (t11 : Bool) => (if t11 = true then .ok false else Res.bind (lApp t3.1 ((1 : Int) + ((t3.1.length : Nat) : Int))) fun (handed : (List Int)) => Res.bind (Res.bind (lGet handed (0 : Int)) fun (t13 : Int) => (.ok (t13 + (5 : Int)))) fun (t14 : Int) => Res.bind (lSet handed (0 : Int) t14) fun (handed : (List Int)) => Res.bind (m_Polynomial___init___v2 (TupL.mk t5.1)) fun (t15 : (TupL Int) × Unit) => Res.bind (.ok (Ob.mk t15 : O_Polynomial)) fun (two : O_Polynomial) => Res.bind (rngR 0 (2 : Int)) fun xs16 => Res.bind (forR (fun (k_ : Int) (s : Unit) => Res.bind (m_law_sums one t6 two t7) fun (t17 : Bool) => (if (!t17) = true then .ok (.rt false) else Res.bind (m_law_sums two t7 one t6) fun (t18 : Bool) => (if (!t18) = true then .ok (.rt false) else .ok (.nx ())))) xs16 ()) fun (y : Lp Bool Unit) => match y with | .ret r => .ok r | .fin s => Res.bind (m_Polynomial___init ([] : List Int)) fun (t20 : (TupL Int) × Unit) => Res.bind (.ok (Ob.mk t20 : O_Polynomial)) fun (none : O_Polynomial) => Res.bind (Res.bind (m_law_is none ([] : List Int)) fun (t21 : Bool) => (if (!t21) = true then .ok (true, ()) else Res.bind (m_law_sums one t6 none ([] : List Int)) fun (t22 : Bool) => .ok ((!t22), ()))) fun (s : Bool × Unit) => match s with | (b23, _) => (if b23 = true then .ok false else Res.bind (Res.bind (m_Polynomial___sub one one) fun (t24 : O_Polynomial) => Res.bind (m_law_is t24 ([] : List Int)) fun (t25 : Bool) => (if (!t25) = true then .ok (true, ()) else Res.bind (m_law_sums one t6 one t6) fun (t26 : Bool) => .ok ((!t26), ()))) fun (s : Bool × Unit) => match s with | (b27, _) => (if b27 = true then .ok false else Res.bind (m_law_take t5.2 (2001 : Int)) fun (t29 : Int × (List Int)) => Res.bind (.ok (t29.1 - (1000 : Int))) fun (t30 : Int) => Res.bind (.ok [t30, (-1000 : Int), (1000 : Int), (-1 : Int), (0 : Int), (1 : Int), (2 : Int)]) fun (numbers : (List Int)) => Res.bind (Res.bind (m_law_values one t6 numbers) fun (t31 : Bool) => (if (!t31) = true then .ok (true, ()) else Res.bind (m_law_values two t7 numbers) fun (t32 : Bool) => .ok ((!t32), ()))) fun (s : Bool × Unit) => match s with | (b33, _) => (if b33 = true then .ok false else Res.bind (Res.bind (m_law_values none ([] : List Int) numbers) fun (t34 : Bool) => (if (!t34) = true then .ok (true, ()) else Res.bind (m_law_unlike one t6) fun (t35 : Bool) => .ok ((!t35), ()))) fun (s : Bool × Unit) => match s with | (b36, _) => (if b36 = true then .ok false else Res.bind (Res.bind (m_law_unlike two t7) fun (t37 : Bool) => (if (!t37) = true then .ok (true, t29.2) else Res.bind (m_law_bounds t29.2 one) fun (t39 : Bool × (List Int)) => .ok ((!t39.1), t39.2))) fun (s : Bool × (List Int)) => match s with | (b40, pool_) => (if b40 = true then .ok false else Res.bind (m_law_limits pool_) fun (t42 : Bool × (List Int)) => (if t42.1 = true then Res.bind (m_law_is one t6) fun (t43 : Bool) => (if t43 = true then Res.bind (m_law_is two t7) fun (t44 : Bool) => .ok t44 else .ok false) else .ok false)))))))
end G
/-! rows of coefficients -/
namespace G
open PySem L2 M
def co (c : List Int) (k : Nat) : Int := c.getD k 0
theorem co_at {c : List Int} {k : Nat} (h : k < c.length) : co c k = c[k] := by
  unfold co
  rw [List.getD_eq_getElem?_getD, List.getElem?_eq_getElem h]
  rfl
theorem co_out {c : List Int} {k : Nat} (h : c.length ≤ k) : co c k = 0 := by
  unfold co
  rw [List.getD_eq_getElem?_getD, List.getElem?_eq_none h]
  rfl
theorem co_nil (k : Nat) : co [] k = 0 := co_out (Nat.zero_le _)
theorem co_set {c : List Int} {i k : Nat} {v : Int} (h : i < c.length) : co (c.set i v) k = if i = k then v else co c k := by
  by_cases hk : k < c.length
  · rw [co_at (by simpa using hk), co_at hk, List.getElem_set]
  · rw [co_out (by simp; omega), co_out (by omega)]
    rw [if_neg (by omega)]
theorem co_rep (n k : Nat) : co (List.replicate n 0) k = 0 := by
  by_cases h : k < n
  · rw [co_at (by simpa using h)]
    simp
  · exact co_out (by simp; omega)
theorem co_app {a b : List Int} (k : Nat) : co (a ++ b) k = if k < a.length then co a k else co b (k - a.length) := by
  unfold co
  rw [List.getD_eq_getElem?_getD, List.getD_eq_getElem?_getD, List.getD_eq_getElem?_getD]
  by_cases h : k < a.length
  · rw [if_pos h, List.getElem?_append_left h]
  · rw [if_neg h, List.getElem?_append_right (by omega)]
theorem co_zeros {a b : List Int} (hb : ∀ k, co b k = 0) (k : Nat) : co (a ++ b) k = co a k := by
  rw [co_app]
  by_cases h : k < a.length
  · rw [if_pos h]
  · rw [if_neg h, hb, co_out (by omega)]
theorem co_take {c : List Int} {s k : Nat} : co (c.take s) k = if k < s then co c k else 0 := by
  by_cases h : k < s
  · rw [if_pos h]
    unfold co
    rw [List.getD_eq_getElem?_getD, List.getD_eq_getElem?_getD, List.getElem?_take, if_pos h]
  · rw [if_neg h]
    exact co_out (by rw [List.length_take]; omega)
/-- the last is not 0 -/
def Tm (c : List Int) : Prop := c = [] ∨ co c (c.length - 1) ≠ 0
theorem tm_len {a b : List Int} (ha : Tm a) (h : ∀ k, co a k = co b k) : a.length ≤ b.length := by
  rcases ha with rfl | ha
  · exact Nat.zero_le _
  · refine Nat.le_of_not_lt fun hl => ha ?_
    rw [h, co_out (by omega)]
theorem tm_ext {a b : List Int} (ha : Tm a) (hb : Tm b) (h : ∀ k, co a k = co b k) : a = b := by
  have l1 := tm_len ha h
  have l2 := tm_len hb fun k => (h k).symm
  refine List.ext_getElem (by omega) fun k h1 h2 => ?_
  rw [← co_at h1, ← co_at h2, h]
/-- a row cut behind its last one that is not 0 -/
def Cut (xs r : List Int) : Prop := Tm r ∧ r.length ≤ xs.length ∧ ∀ j, co r j = co xs j
theorem cut_take {xs : List Int} {s : Nat} (hs : s ≤ xs.length) (h0 : ∀ j, s ≤ j → co xs j = 0) (h1 : s = 0 ∨ co xs (s - 1) ≠ 0) : Cut xs (xs.take s) := by
  refine ⟨?_, by rw [List.length_take]; omega, fun j => ?_⟩
  · rcases h1 with rfl | h1
    · exact .inl (by simp)
    · by_cases e : s = 0
      · exact .inl (by rw [e]; simp)
      · refine .inr ?_
        rw [co_take, List.length_take, Nat.min_eq_left hs, if_pos (by omega)]
        exact h1
  · rw [co_take]
    by_cases h : j < s
    · rw [if_pos h]
    · rw [if_neg h, h0 j (by omega)]
theorem cut_self {xs r : List Int} (h : Tm xs) (c : Cut xs r) : r = xs := tm_ext c.1 h c.2.2
theorem cut_uniq {xs ys r s : List Int} (c : Cut xs r) (d : Cut ys s) (h : ∀ k, co xs k = co ys k) : r = s := tm_ext c.1 d.1 fun k => by rw [c.2.2, d.2.2, h]
/-! sums -/
def sm : Nat → (Nat → Int) → Int
  | 0, _ => 0
  | n + 1, f => sm n f + f n
theorem sm_congr {f g : Nat → Int} : ∀ {n : Nat}, (∀ i, i < n → f i = g i) → sm n f = sm n g
  | 0, _ => rfl
  | n + 1, h => by
    show sm n f + f n = sm n g + g n
    rw [sm_congr fun i hi => h i (by omega), h n (by omega)]
theorem sm_zero {f : Nat → Int} : ∀ {n : Nat}, (∀ i, i < n → f i = 0) → sm n f = 0
  | 0, _ => rfl
  | n + 1, h => by
    show sm n f + f n = 0
    rw [sm_zero fun i hi => h i (by omega), h n (by omega)]
    rfl
theorem sm_add {f g : Nat → Int} : ∀ n : Nat, sm n (fun i => f i + g i) = sm n f + sm n g
  | 0 => rfl
  | n + 1 => by
    show sm n (fun i => f i + g i) + (f n + g n) = (sm n f + f n) + (sm n g + g n)
    rw [sm_add n]
    omega
theorem sm_comm (F : Nat → Nat → Int) (b : Nat) : ∀ a : Nat, sm a (fun i => sm b fun j => F i j) = sm b fun j => sm a fun i => F i j
  | 0 => by
    exact (sm_zero fun _ _ => rfl).symm
  | a + 1 => by
    show sm a (fun i => sm b fun j => F i j) + (sm b fun j => F a j) = sm b fun j => (sm a (fun i => F i j) + F a j)
    rw [sm_comm F b a, sm_add]
/-- the coefficient of the product -/
def cell (c d : List Int) (k i : Nat) : Int := sm d.length fun j => if i + j = k then co c i * co d j else 0
def prd (c d : List Int) (k : Nat) : Int := sm c.length (cell c d k)
theorem prd_comm (c d : List Int) (k : Nat) : prd c d k = prd d c k := by
  unfold prd cell
  rw [sm_comm]
  refine sm_congr fun j _ => sm_congr fun i _ => ?_
  by_cases h : i + j = k
  · rw [if_pos h, if_pos (by omega), Int.mul_comm]
  · rw [if_neg h, if_neg (by omega)]
theorem prd_far {c d : List Int} {k : Nat} (h : c.length + d.length ≤ k + 1) : prd c d k = 0 := sm_zero fun i hi => sm_zero fun j hj => if_neg (by omega)
theorem prd_nil {c d : List Int} (h : c = [] ∨ d = []) (k : Nat) : prd c d k = 0 := by
  rcases h with rfl | rfl
  · rfl
  · exact sm_zero fun i _ => rfl
theorem sm_last {f : Nat → Int} {n : Nat} (h : ∀ i, i < n → f i = 0) : sm (n + 1) f = f n := by
  show sm n f + f n = f n
  rw [sm_zero h]
  omega
/-- the greatest one -/
theorem prd_top {c d : List Int} {a b : Nat} (hc : c.length = a + 1) (hd : d.length = b + 1) : prd c d (a + b) = co c a * co d b := by
  unfold prd
  rw [hc, sm_last (f := cell c d (a + b)) fun i hi => sm_zero fun j hj => if_neg (by omega)]
  unfold cell
  rw [hd, sm_last (f := fun j => if a + j = a + b then co c a * co d j else 0) fun j hj => if_neg (by omega)]
  exact if_pos rfl
/-- absolute sizes -/
theorem sm_bd {f : Nat → Int} {B : Nat} : ∀ {n : Nat}, (∀ i, i < n → (f i).natAbs ≤ B) → (sm n f).natAbs ≤ n * B
  | 0, _ => by show (0 : Int).natAbs ≤ _; simp
  | n + 1, h => by
    have h1 := sm_bd (n := n) fun i hi => h i (by omega)
    have h2 := h n (by omega)
    show (sm n f + f n).natAbs ≤ (n + 1) * B
    rw [Nat.add_mul]
    omega
theorem prd_bd {c d : List Int} {B D : Nat} (hc : ∀ k, (co c k).natAbs ≤ B) (hd : ∀ k, (co d k).natAbs ≤ D) (k : Nat) : (prd c d k).natAbs ≤ c.length * (d.length * (B * D)) := by
  refine sm_bd fun i _ => sm_bd fun j _ => ?_
  by_cases h : i + j = k
  · rw [if_pos h, Int.natAbs_mul]
    exact Nat.mul_le_mul (hc i) (hd j)
  · rw [if_neg h]
    simp
/-! values -/
def ev : List Int → Int → Int
  | [], _ => 0
  | c :: cs, x => c + x * ev cs x
theorem ev_bd {x : Int} (hx : x.natAbs ≤ 1000) {B : Nat} : ∀ {c : List Int}, (∀ y ∈ c, y.natAbs < 2 ^ B) → (ev c x).natAbs < 2 ^ (B + 11 * c.length)
  | [], _ => by
    show (0 : Int).natAbs < _
    exact Nat.two_pow_pos _
  | c :: cs, h => by
    have h1 := ev_bd hx (c := cs) fun y hy => h y (List.mem_cons_of_mem _ hy)
    have h2 := h c List.mem_cons_self
    have e : (x * ev cs x).natAbs = x.natAbs * (ev cs x).natAbs := Int.natAbs_mul _ _
    have h3 : x.natAbs * (ev cs x).natAbs ≤ 1000 * (ev cs x).natAbs := Nat.mul_le_mul_right _ hx
    have e2 : 2 ^ (B + 11 * (cs.length + 1)) = 2048 * 2 ^ (B + 11 * cs.length) := by
      rw [show B + 11 * (cs.length + 1) = 11 + (B + 11 * cs.length) by omega, Nat.pow_add]
    have h4 : 2 ^ B ≤ 2 ^ (B + 11 * cs.length) := Nat.pow_le_pow_right (by decide) (by omega)
    show (c + x * ev cs x).natAbs < 2 ^ (B + 11 * (cs.length + 1))
    rw [e2]
    omega
theorem mulI_b {x y : Int} {a b : Nat} (ha : x.natAbs < 2 ^ a) (hb : y.natAbs < 2 ^ b) (h : a + b < 1000000) : mulI x y = .ok (x * y) := by
  unfold mulI
  rw [clo_eq]
  have h1 := log2_le ha
  have h2 := log2_le hb
  exact if_pos (by omega)
theorem okmul {x y : Int} {a b : Nat} {P : Int → Prop} (ha : x.natAbs < 2 ^ a) (hb : y.natAbs < 2 ^ b) (h : a + b < 1000000) (k : P (x * y)) : Ok (mulI x y) P := ⟨_, mulI_b ha hb h, k⟩
theorem lt_pw {n a b : Nat} (h : n < 2 ^ a) (hab : a ≤ b) : n < 2 ^ b := Nat.lt_of_lt_of_le h (Nat.pow_le_pow_right (by decide) hab)
theorem enum_split {c : List Int} {done rest : List (Int × Int)} {p : Int × Int} (e : enumL c = done ++ p :: rest) : p.1 = (done.length : Int) ∧ done.length < c.length ∧ p.2 = co c done.length := by
  have h : (enumL c)[done.length]? = some p := by rw [e]; simp
  obtain ⟨h1, h2⟩ := enumL_at h
  have hl : done.length < c.length := (List.getElem?_eq_some_iff.mp h1).1
  refine ⟨h2, hl, ?_⟩
  rw [co_at hl]
  exact ((List.getElem?_eq_some_iff.mp h1).2).symm
theorem enum_len (c : List Int) : (enumL c).length = c.length := enumL_len c
end G
/-! what the class does, what the law's own row words do -/
namespace G
open PySem L2 M
abbrev PP (e : List Int) : O_Polynomial := (Ob.mk (⟨e⟩, ()) : O_Polynomial)
theorem many_ok {n : List Int} (h : n.length ≤ 100) : m_check_many (SeqL.mk n) (100 : Int) = .ok () := by
  unfold m_check_many
  exact if_neg (by simp; omega)
theorem init_Ok {xs : List Int} {P : (TupL Int) × Unit → Prop} (h : xs.length ≤ 100) (k : ∀ r, Cut xs r → P (⟨r⟩, ())) : Ok (m_Polynomial___init xs) P := by
  unfold m_Polynomial___init
  refine ok_bind (ok_eq (many_ok h) ?_)
  refine ok_bind (ok_ret ?_)
  refine ok_bind ?_
  refine ok_whileP (fun (s : Int) => 0 ≤ s ∧ s ≤ xs.length ∧ ∀ j, s.toNat ≤ j → co xs j = 0) (fun (s : Int) => 0 ≤ s ∧ s ≤ xs.length ∧ (∀ j, s.toNat ≤ j → co xs j = 0) ∧ (s = 0 ∨ co xs (s.toNat - 1) ≠ 0)) (fun s => s.toNat)
    ⟨by omega, by omega, fun j hj => co_out (by omega)⟩ (by omega) (fun s hs => ?_) (fun s hs => ?_)
  · obtain ⟨s0, s1, hz⟩ := hs
    try dsimp only
    by_cases c : s > 0
    · rw [if_pos (decide_eq_true c)]
      refine ok_bind (ok_bind (ok_lGetE (by omega) (by omega) fun hx => ?_))
      have e0 : co xs (s.toNat - 1) = xs[(s - 1).toNat] := by
        have e1 : (s - 1).toNat = s.toNat - 1 := by omega
        rw [co_at (by omega)]
        congr 1
        exact e1.symm
      refine ok_ret (ok_ret ⟨fun e => ?_, fun e => ?_⟩)
      · have e := of_decide_eq_true e
        refine ok_bind (ok_ret (ok_ret ⟨⟨by omega, by omega, fun j hj => ?_⟩, by omega⟩))
        by_cases q : s.toNat ≤ j
        · exact hz j q
        · have : j = s.toNat - 1 := by omega
          rw [this, e0]
          exact e
      · have e := of_decide_eq_false e
        exact ⟨s0, s1, hz, .inr (by rw [e0]; exact e)⟩
    · rw [if_neg (by simpa using c)]
      refine ok_bind (ok_ret (ok_ret ⟨fun e => (nomatch e), fun e => ⟨s0, s1, hz, .inl (by omega)⟩⟩))
  · obtain ⟨s0, s1, hz, h1⟩ := hs
    try dsimp only
    refine ok_bind (ok_ret (ok_ret ?_))
    rw [cutTo s0]
    refine k _ (cut_take (by omega) hz ?_)
    rcases h1 with h1 | h1
    · exact .inl (by omega)
    · exact .inr h1
theorem init2_eq (xs : List Int) : m_Polynomial___init___v2 ⟨xs⟩ = m_Polynomial___init xs := rfl
theorem init_far {xs : List Int} (h : 100 < xs.length) : m_Polynomial___init xs = .exc ⟨"TooMany", [("most", enc (100 : Int))]⟩ := by
  unfold m_Polynomial___init m_check_many
  rw [if_pos (decide_eq_true (show ((xs.length : Nat) : Int) > 100 by omega))]
  rfl
theorem trimmed_Ok {row : List Int} {P : List Int → Prop} (h : row.length ≤ 100000) (k : ∀ r, Cut row r → P r) : Ok (m_law_trimmed row) P := by
  unfold m_law_trimmed
  refine ok_bind (ok_ret ?_)
  refine ok_bind (ok_rngR (by omega) (by omega) ?_)
  refine ok_bind ?_
  refine ok_forN (a := 0) (b := row.length) (fun m (s : Int) => 0 ≤ s ∧ s ≤ m ∧ (∀ j, s.toNat ≤ j → j < m → co row j = 0) ∧ (s = 0 ∨ co row (s.toNat - 1) ≠ 0)) (Nat.zero_le _) ⟨by omega, by omega, fun j h1 h2 => by omega, .inl rfl⟩ (fun m s _ hm hs => ?_) (fun s hs => ?_)
  · obtain ⟨s0, s1, hz, h1⟩ := hs
    try dsimp only
    refine ok_bind (ok_bind (ok_lGetE (by omega) (by omega) fun hx => ?_))
    have e0 : co row m = row[((m : Int)).toNat] := co_at hm
    refine ok_ret ?_
    refine ok_bind ?_
    refine ok_ite (fun c => ?_) (fun c => ?_)
    · refine ok_bind (ok_ret (ok_ret (ok_ret ⟨by omega, by omega, fun j h1 h2 => by omega, .inr ?_⟩)))
      have : ((m : Int) + 1).toNat - 1 = m := by omega
      rw [this, e0]
      simpa using c
    · refine ok_ret (ok_ret ⟨s0, by omega, fun j h2 h3 => ?_, h1⟩)
      by_cases q : j < m
      · exact hz j h2 q
      · have : j = m := by omega
        rw [this, e0]
        simpa using c
  · obtain ⟨s0, s1, hz, h1⟩ := hs
    try dsimp only
    refine ok_ret ?_
    rw [cutTo s0]
    refine k _ (cut_take (by omega) (fun j hj => ?_) ?_)
    · by_cases q : j < row.length
      · exact hz j hj q
      · exact co_out (by omega)
    · rcases h1 with h1 | h1
      · exact .inl (by omega)
      · exact .inr h1
theorem zeros_map {β : Type} (xs : List β) : xs.map (fun _ => (0 : Int)) = List.replicate xs.length 0 := by
  induction xs with
  | nil => rfl
  | cons x xs ih => rw [List.map_cons, ih]; rfl
theorem zeros_Ok {n : Int} {P : List Int → Prop} (h0 : -1000 ≤ n) (h1 : n ≤ 1000) (k : P (List.replicate n.toNat 0)) {f : Int → Res Int} (hf : f = fun _ => .ok (0 : Int)) : Ok (lcM f (rng 0 n)) P := by
  subst hf
  refine ok_lcM (g := fun _ => (0 : Int)) (by rw [rng_len]; omega) (fun x _ => ok_ret rfl) ?_
  rw [zeros_map, rng_len]
  have e : n - 0 = n := by omega
  rw [e]
  exact k
theorem len_max {a b : Nat} : (max (a : Int) (b : Int)).toNat = max a b := by omega
/-- sums -/
theorem add_Ok {c d : List Int} {P : O_Polynomial → Prop} (hc : c.length ≤ 100) (hd : d.length ≤ 100) (k : ∀ xs r, Cut xs r → (∀ j, co xs j = co c j + co d j) → P (PP r)) : Ok (m_Polynomial___add (PP c) (PP d)) P := by
  unfold m_Polynomial___add
  try dsimp only
  refine ok_bind (ok_ret ?_)
  refine ok_bind (ok_rngR (by omega) (by omega) ?_)
  refine ok_bind (zeros_Ok (by omega) (by omega) ?_ rfl)
  rw [len_max]
  refine ok_bind ?_
  refine ok_forA (fun done (s : List Int) => s.length = max c.length d.length ∧ ∀ j, co s j = if j < done.length then co c j else 0) ⟨by simp, fun j => by rw [co_rep]; simp⟩ (fun done p rest s e hs => ?_) (fun s hs => ?_)
  · obtain ⟨hl, hs⟩ := hs
    obtain ⟨e1, e2, e3⟩ := enum_split e
    try dsimp only
    rw [e1, e3]
    refine ok_bind (ok_lSet (by omega) (by omega) ?_)
    refine ok_ret ⟨by simpa using hl, fun j => ?_⟩
    rw [Int.toNat_natCast, co_set (by omega), hs]
    have : (done ++ [p]).length = done.length + 1 := by simp
    rw [this]
    by_cases q : done.length = j
    · rw [if_pos q, if_pos (by omega), q]
    · rw [if_neg q]
      by_cases q2 : j < done.length
      · rw [if_pos q2, if_pos (by omega)]
      · rw [if_neg q2, if_neg (by omega)]
  obtain ⟨hl, hs⟩ := hs
  try dsimp only
  refine ok_bind ?_
  refine ok_forA (fun done (s : List Int) => s.length = max c.length d.length ∧ ∀ j, co s j = co c j + if j < done.length then co d j else 0) ⟨hl, fun j => by
    rw [hs, enum_len]
    by_cases q : j < c.length
    · rw [if_pos q]; simp
    · rw [if_neg q, co_out (c := c) (by omega)]; simp⟩ (fun done p rest s e hs => ?_) (fun s hs => ?_)
  · obtain ⟨hl, hs⟩ := hs
    obtain ⟨e1, e2, e3⟩ := enum_split e
    try dsimp only
    rw [e1, e3]
    refine ok_bind (ok_bind (ok_lGetE (by omega) (by omega) fun hx => ok_ret ?_))
    have e0 : s[((done.length : Int)).toNat] = co s done.length := (co_at (by omega)).symm
    rw [e0, hs, if_neg (by omega)]
    refine ok_bind (ok_lSet (by omega) (by omega) ?_)
    refine ok_ret ⟨by simpa using hl, fun j => ?_⟩
    rw [Int.toNat_natCast, co_set (by omega), hs]
    have : (done ++ [p]).length = done.length + 1 := by simp
    rw [this]
    by_cases q : done.length = j
    · rw [if_pos q, if_pos (by omega), q]; omega
    · rw [if_neg q]
      by_cases q2 : j < done.length
      · rw [if_pos q2, if_pos (by omega)]
      · rw [if_neg q2, if_neg (by omega)]
  obtain ⟨hl, hs⟩ := hs
  try dsimp only
  refine ok_bind (init_Ok (by omega) fun r hr => ok_ret (k s r hr fun j => ?_))
  rw [hs, enum_len]
  by_cases q : j < d.length
  · rw [if_pos q]
  · rw [if_neg q, co_out (c := d) (by omega)]
theorem sub_Ok {c d : List Int} {P : O_Polynomial → Prop} (hc : c.length ≤ 100) (hd : d.length ≤ 100) (k : ∀ xs r, Cut xs r → (∀ j, co xs j = co c j - co d j) → P (PP r)) : Ok (m_Polynomial___sub (PP c) (PP d)) P := by
  unfold m_Polynomial___sub
  try dsimp only
  refine ok_bind (ok_ret ?_)
  refine ok_bind (ok_rngR (by omega) (by omega) ?_)
  refine ok_bind (zeros_Ok (by omega) (by omega) ?_ rfl)
  rw [len_max]
  refine ok_bind ?_
  refine ok_forA (fun done (s : List Int) => s.length = max c.length d.length ∧ ∀ j, co s j = if j < done.length then co c j else 0) ⟨by simp, fun j => by rw [co_rep]; simp⟩ (fun done p rest s e hs => ?_) (fun s hs => ?_)
  · obtain ⟨hl, hs⟩ := hs
    obtain ⟨e1, e2, e3⟩ := enum_split e
    try dsimp only
    rw [e1, e3]
    refine ok_bind (ok_lSet (by omega) (by omega) ?_)
    refine ok_ret ⟨by simpa using hl, fun j => ?_⟩
    rw [Int.toNat_natCast, co_set (by omega), hs]
    have : (done ++ [p]).length = done.length + 1 := by simp
    rw [this]
    by_cases q : done.length = j
    · rw [if_pos q, if_pos (by omega), q]
    · rw [if_neg q]
      by_cases q2 : j < done.length
      · rw [if_pos q2, if_pos (by omega)]
      · rw [if_neg q2, if_neg (by omega)]
  obtain ⟨hl, hs⟩ := hs
  try dsimp only
  refine ok_bind ?_
  refine ok_forA (fun done (s : List Int) => s.length = max c.length d.length ∧ ∀ j, co s j = co c j - if j < done.length then co d j else 0) ⟨hl, fun j => by
    rw [hs, enum_len]
    by_cases q : j < c.length
    · rw [if_pos q]; simp
    · rw [if_neg q, co_out (c := c) (by omega)]; simp⟩ (fun done p rest s e hs => ?_) (fun s hs => ?_)
  · obtain ⟨hl, hs⟩ := hs
    obtain ⟨e1, e2, e3⟩ := enum_split e
    try dsimp only
    rw [e1, e3]
    refine ok_bind (ok_bind (ok_lGetE (by omega) (by omega) fun hx => ok_ret ?_))
    have e0 : s[((done.length : Int)).toNat] = co s done.length := (co_at (by omega)).symm
    rw [e0, hs, if_neg (by omega)]
    refine ok_bind (ok_lSet (by omega) (by omega) ?_)
    refine ok_ret ⟨by simpa using hl, fun j => ?_⟩
    rw [Int.toNat_natCast, co_set (by omega), hs]
    have : (done ++ [p]).length = done.length + 1 := by simp
    rw [this]
    by_cases q : done.length = j
    · rw [if_pos q, if_pos (by omega), q]; omega
    · rw [if_neg q]
      by_cases q2 : j < done.length
      · rw [if_pos q2, if_pos (by omega)]
      · rw [if_neg q2, if_neg (by omega)]
  obtain ⟨hl, hs⟩ := hs
  try dsimp only
  refine ok_bind (init_Ok (by omega) fun r hr => ok_ret (k s r hr fun j => ?_))
  rw [hs, enum_len]
  by_cases q : j < d.length
  · rw [if_pos q]
  · rw [if_neg q, co_out (c := d) (by omega)]
/-- the law's sums -/
theorem plus_Ok {c d : List Int} {s : Int} {P : List Int → Prop} (hc : c.length ≤ 100) (hd : d.length ≤ 100) (hb : ∀ k, (co d k).natAbs < 2 ^ 900) (hs : s.natAbs ≤ 1) (k : ∀ xs r, Cut xs r → (∀ j, co xs j = co c j + s * co d j) → P r) : Ok (m_law_plus c d s) P := by
  unfold m_law_plus
  try dsimp only
  refine ok_bind (ok_ret ?_)
  refine ok_bind (ok_rngR (by omega) (by omega) ?_)
  refine ok_bind (zeros_Ok (by omega) (by omega) ?_ rfl)
  refine ok_bind (ok_lCat (by rw [List.length_replicate]; omega) ?_)
  refine ok_bind (ok_rngR (by omega) (by omega) ?_)
  refine ok_bind (zeros_Ok (by omega) (by omega) ?_ rfl)
  refine ok_bind (ok_lCat (by rw [List.length_replicate]; omega) ?_)
  have ec : ∀ j, co (c ++ List.replicate (max (c.length : Int) (d.length : Int) - (c.length : Int)).toNat 0) j = co c j := co_zeros (co_rep _)
  have ed : ∀ j, co (d ++ List.replicate (max (c.length : Int) (d.length : Int) - (d.length : Int)).toNat 0) j = co d j := co_zeros (co_rep _)
  have lc : (c ++ List.replicate (max (c.length : Int) (d.length : Int) - (c.length : Int)).toNat (0 : Int)).length = max c.length d.length := by rw [List.length_append, List.length_replicate]; omega
  have ld : (d ++ List.replicate (max (c.length : Int) (d.length : Int) - (d.length : Int)).toNat (0 : Int)).length = max c.length d.length := by rw [List.length_append, List.length_replicate]; omega
  generalize c ++ List.replicate (max (c.length : Int) (d.length : Int) - (c.length : Int)).toNat (0 : Int) = c' at ec lc ⊢
  generalize d ++ List.replicate (max (c.length : Int) (d.length : Int) - (d.length : Int)).toNat (0 : Int) = d' at ed ld ⊢
  refine ok_bind (ok_rngR (by omega) (by omega) ?_)
  refine ok_bind (ok_lcM (g := fun x : Int => co c x.toNat + s * co d x.toNat) (by rw [rng_len]; omega) (fun x hx => ?_) ?_)
  · have hx := mem_rng.mp hx
    refine ok_bind (ok_bind (ok_lGetE (by omega) (by omega) fun h1 => ?_))
    refine ok_bind (ok_bind (ok_lGetE (by omega) (by omega) fun h2 => ?_))
    have e1 : c'[x.toNat] = co c x.toNat := by rw [← ec, co_at h1]
    have e2 : d'[x.toNat] = co d x.toNat := by rw [← ed, co_at h2]
    rw [e1, e2]
    refine okmul (a := 1) (b := 900) (by omega) (hb _) (by decide) ?_
    exact ok_ret (ok_ret rfl)
  refine ok_bind (trimmed_Ok (by rw [List.length_map, rng_len]; omega) fun r hr => ok_ret (k _ r hr fun j => ?_))
  by_cases q : j < max c.length d.length
  · have hl : j < ((rng 0 (max (c.length : Int) (d.length : Int))).map fun x : Int => co c x.toNat + s * co d x.toNat).length := by rw [List.length_map, rng_len]; omega
    rw [co_at hl, List.getElem_map]
    have e : (rng 0 (max (c.length : Int) (d.length : Int)))[j]'(by simpa using hl) = (j : Int) := by unfold rng; simp
    rw [e, Int.toNat_natCast]
  · rw [co_out (by rw [List.length_map, rng_len]; omega), co_out (c := c) (by omega), co_out (c := d) (by omega)]
    simp
end G
/-! products, values -/
namespace G
open PySem L2 M
theorem add_ite {p : Prop} [Decidable p] {a b : Int} : (if p then a + b else a) = a + if p then b else 0 := by
  by_cases h : p
  · rw [if_pos h, if_pos h]
  · rw [if_neg h, if_neg h]; omega
theorem mul_Ok {c d : List Int} {P : O_Polynomial → Prop} (hc : c.length ≤ 100) (hd : d.length ≤ 100) (hcd : c = [] ∨ d = [] ∨ c.length + d.length ≤ 101) (bc : ∀ k, (co c k).natAbs < 2 ^ 900) (bd : ∀ k, (co d k).natAbs < 2 ^ 900)
    (k : ∀ xs r, Cut xs r → (∀ j, co xs j = prd c d j) → P (PP r)) : Ok (m_Polynomial___mul (PP c) (PP d)) P := by
  unfold m_Polynomial___mul
  try dsimp only
  refine ok_bind (ok_ret ?_)
  refine ok_bind ?_
  have hN : ∃ N : Nat, N ≤ 100 ∧ (c.length = 0 ∨ d.length = 0 ∨ c.length + d.length = N + 1) ∧ ((c.length = 0 ∨ d.length = 0) → N = 0) := by
    rcases hcd with h | h | h
    · exact ⟨0, by omega, .inl (by rw [h]; rfl), fun _ => rfl⟩
    · exact ⟨0, by omega, .inr (.inl (by rw [h]; rfl)), fun _ => rfl⟩
    · by_cases q : c.length = 0
      · exact ⟨0, by omega, .inl q, fun _ => rfl⟩
      by_cases q2 : d.length = 0
      · exact ⟨0, by omega, .inr (.inl q2), fun _ => rfl⟩
      · exact ⟨c.length + d.length - 1, by omega, .inr (.inr (by omega)), fun z => by omega⟩
  obtain ⟨N, n1, n2, n3⟩ := hN
  refine ok_mono (Q := fun s : Int => s = N) ?_ ?_
  · refine ok_ite (fun e => ok_bind (ok_ret (ok_ret ?_))) (fun e => ok_ret ?_)
    · simp at e
      have := n3 (by rcases e with e | e <;> simp [e])
      omega
    · simp at e
      rcases n2 with z | z | z
      · exact absurd (List.eq_nil_of_length_eq_zero z) e.1
      · exact absurd (List.eq_nil_of_length_eq_zero z) e.2
      · omega
  intro s hs
  subst hs
  try dsimp only
  rw [if_neg (by simp; omega)]
  refine ok_bind (ok_rngR (by omega) (by omega) ?_)
  refine ok_bind (zeros_Ok (by omega) (by omega) ?_ rfl)
  rw [Int.toNat_natCast]
  refine ok_bind ?_
  refine ok_forA (fun done (s : List Int) => s.length = N ∧ ∀ j, co s j = sm done.length (cell c d j)) ⟨by simp, fun j => co_rep _ _⟩ (fun done p rest s e hs => ?_) (fun s hs => ?_)
  · obtain ⟨hl, hs⟩ := hs
    obtain ⟨e1, e2, e3⟩ := enum_split e
    try dsimp only
    refine ok_bind ?_
    refine ok_forA (fun done2 (s : List Int) => s.length = N ∧ ∀ j, co s j = sm done.length (cell c d j) + sm done2.length fun i => if done.length + i = j then co c done.length * co d i else 0) ⟨hl, fun j => by rw [hs]; exact (Int.add_zero _).symm⟩ (fun done2 p2 rest2 s e' hs => ?_) (fun s hs => ?_)
    · obtain ⟨hl, hs⟩ := hs
      obtain ⟨f1, f2, f3⟩ := enum_split e'
      try dsimp only
      rw [e1, e3, f1, f3]
      have hi : done.length + done2.length < N := by omega
      have ei : ((done.length : Nat) : Int) + ((done2.length : Nat) : Int) = ((done.length + done2.length : Nat) : Int) := by omega
      rw [ei]
      refine ok_bind (ok_bind (ok_lGetE (by omega) (by omega) fun hx => ?_))
      refine ok_bind (okmul (bc _) (bd _) (by decide) (ok_ret ?_))
      have e0 : s[(((done.length + done2.length : Nat) : Int)).toNat] = co s (done.length + done2.length) := (co_at (by omega)).symm
      rw [e0]
      refine ok_bind (ok_lSet (by omega) (by omega) ?_)
      refine ok_ret ⟨by simpa using hl, fun j => ?_⟩
      rw [Int.toNat_natCast, co_set (by omega)]
      have : (done2 ++ [p2]).length = done2.length + 1 := by simp
      rw [this]
      show _ = _ + (sm done2.length _ + if done.length + done2.length = j then _ else 0)
      by_cases q : done.length + done2.length = j
      · rw [if_pos q, if_pos q, q, hs]; omega
      · rw [if_neg q, if_neg q, hs]; omega
    · obtain ⟨hl, hs⟩ := hs
      try dsimp only
      refine ok_ret ⟨hl, fun j => ?_⟩
      have : (done ++ [p]).length = done.length + 1 := by simp
      rw [hs, this, enum_len]
      rfl
  obtain ⟨hl, hs⟩ := hs
  try dsimp only
  refine ok_bind (init_Ok (by omega) fun r hr => ok_ret (k s r hr fun j => ?_))
  rw [hs, enum_len]
  rfl
theorem mul_far {c d : List Int} (h : 101 < c.length + d.length) (hc : c ≠ []) (hd : d ≠ []) : m_Polynomial___mul (PP c) (PP d) = .exc ⟨"TooMany", [("most", enc (100 : Int))]⟩ := by
  unfold m_Polynomial___mul
  have h1 : c.length ≠ 0 := fun z => hc (List.eq_nil_of_length_eq_zero z)
  have h2 : d.length ≠ 0 := fun z => hd (List.eq_nil_of_length_eq_zero z)
  rw [Res.bind_ok, if_neg (by simp; exact ⟨hc, hd⟩), Res.bind_ok]
  exact if_pos (decide_eq_true (by show ((c.length : Int) + (d.length : Int) - 1) > 100; omega))
/-- the law's products -/
theorem times_Ok {c d : List Int} {P : List Int → Prop} (hc : c.length ≤ 100) (hd : d.length ≤ 100) (bc : ∀ k, (co c k).natAbs < 2 ^ 900) (bd : ∀ k, (co d k).natAbs < 2 ^ 900)
    (k : ∀ xs r, Cut xs r → (∀ j, co xs j = prd c d j) → P r) : Ok (m_law_times c d) P := by
  unfold m_law_times
  refine ok_bind (ok_rngR (by omega) (by omega) ?_)
  refine ok_bind (zeros_Ok (by omega) (by omega) ?_ rfl)
  have eN : ((c.length : Int) + (d.length : Int)).toNat = c.length + d.length := by omega
  rw [eN]
  refine ok_bind (ok_rngR (by omega) (by omega) ?_)
  refine ok_bind ?_
  refine ok_forN (a := 0) (b := c.length) (fun m (s : List Int) => s.length = c.length + d.length ∧ ∀ j, co s j = sm m (cell c d j)) (Nat.zero_le _) ⟨by simp, fun j => co_rep _ _⟩ (fun m s _ hm hs => ?_) (fun s hs => ?_)
  · obtain ⟨hl, hs⟩ := hs
    try dsimp only
    refine ok_bind (ok_rngR (by omega) (by omega) ?_)
    refine ok_bind ?_
    refine ok_forN (a := 0) (b := d.length) (fun n (s : List Int) => s.length = c.length + d.length ∧ ∀ j, co s j = sm m (cell c d j) + sm n fun i => if m + i = j then co c m * co d i else 0) (Nat.zero_le _) ⟨hl, fun j => by rw [hs]; exact (Int.add_zero _).symm⟩ (fun n s _ hn hs => ?_) (fun s hs => ?_)
    · obtain ⟨hl, hs⟩ := hs
      try dsimp only
      have ei : ((m : Nat) : Int) + ((n : Nat) : Int) = ((m + n : Nat) : Int) := by omega
      rw [ei]
      refine ok_bind (ok_bind (ok_lGetE (by omega) (by omega) fun hx => ?_))
      refine ok_bind (ok_bind (ok_lGetE (by omega) (by omega) fun hx1 => ?_))
      refine ok_bind (ok_lGetE (by omega) (by omega) fun hx2 => ?_)
      have e0 : s[(((m + n : Nat) : Int)).toNat] = co s (m + n) := (co_at (by omega)).symm
      have e1 : c[((m : Nat) : Int).toNat] = co c m := (co_at (by omega)).symm
      have e2 : d[((n : Nat) : Int).toNat] = co d n := (co_at (by omega)).symm
      rw [e0, e1, e2]
      refine okmul (bc _) (bd _) (by decide) (ok_ret ?_)
      refine ok_bind (ok_lSet (by omega) (by omega) ?_)
      refine ok_ret ⟨by simpa using hl, fun j => ?_⟩
      rw [Int.toNat_natCast, co_set (by omega)]
      show _ = _ + (sm n _ + if m + n = j then _ else 0)
      by_cases q : m + n = j
      · rw [if_pos q, if_pos q, q, hs]; omega
      · rw [if_neg q, if_neg q, hs]; omega
    · obtain ⟨hl, hs⟩ := hs
      try dsimp only
      refine ok_ret ⟨hl, fun j => ?_⟩
      rw [hs]
      rfl
  obtain ⟨hl, hs⟩ := hs
  try dsimp only
  refine ok_bind (trimmed_Ok (by omega) fun r hr => ok_ret (k s r hr fun j => ?_))
  rw [hs]
  rfl
/-! values -/
theorem range_ok {x : Int} (h : x.natAbs ≤ 1000) : m_check_range x (-(1000 : Int)) (1000 : Int) = .ok () := by
  unfold m_check_range
  exact if_neg (by simp; omega)
theorem ev_app {x : Int} {a : Int} : ∀ {xs : List Int}, ev (a :: xs) x = a + x * ev xs x := rfl
theorem value_Ok {c : List Int} {x : Int} {P : Int → Prop} (hx : x.natAbs ≤ 1000) (hc : c.length ≤ 1000) (hb : ∀ y ∈ c, y.natAbs < 2 ^ 900) (k : P (ev c x)) : Ok (m_Polynomial_value_at (PP c) x) P := by
  unfold m_Polynomial_value_at
  refine ok_bind (ok_eq (range_ok hx) ?_)
  refine ok_bind (ok_ret ?_)
  try dsimp only
  refine ok_bind ?_
  refine ok_forA (fun done (s : Int) => s = ev done.reverse x) rfl (fun done y rest s e hs => ?_) (fun s hs => ?_)
  · subst hs
    try dsimp only
    have hm : ∀ z, z ∈ done ∨ z = y → z ∈ c := fun z hz => by
      rw [← List.mem_reverse, e]
      rcases hz with hz | hz
      · exact List.mem_append_left _ hz
      · exact List.mem_append_right _ (by rw [hz]; exact List.mem_cons_self)
    have hl : done.length ≤ c.length := by
      have := congrArg List.length e
      simp at this
      omega
    have b1 := ev_bd hx (c := done.reverse) (B := 900) fun z hz => hb z (hm z (.inl (List.mem_reverse.mp hz)))
    refine ok_bind (ok_bind (okmul b1 (show x.natAbs < 2 ^ 10 by omega) (by rw [List.length_reverse]; omega) (ok_ret (ok_ret ?_))))
    rw [List.reverse_append]
    show _ = y + x * ev done.reverse x
    rw [Int.mul_comm, Int.add_comm]
  · subst hs
    try dsimp only
    refine ok_ret ?_
    rw [List.reverse_reverse]
    exact k
theorem value_far {c : List Int} {x : Int} (hx : 1000 < x.natAbs) : m_Polynomial_value_at (PP c) x = .exc ⟨"OutOfBounds", [("value", enc x)]⟩ := by
  unfold m_Polynomial_value_at m_check_range
  rw [if_pos (by simp; omega)]
  rfl
theorem lvalue_Ok {c : List Int} {x : Int} {P : Int → Prop} (hx : x.natAbs ≤ 1000) (hc : c.length ≤ 1000) (hb : ∀ y ∈ c, y.natAbs < 2 ^ 900) (k : P (ev c x)) : Ok (m_law_value c x) P := by
  unfold m_law_value
  refine ok_bind (ok_ret ?_)
  refine ok_bind (ok_ret ?_)
  try dsimp only
  refine ok_bind ?_
  refine ok_forL (fun rest (s : Int × Int) => s.1 + s.2 * ev rest x = ev c x ∧ rest.length ≤ c.length ∧ s.2.natAbs < 2 ^ (1 + 11 * (c.length - rest.length)) ∧ ∀ y ∈ rest, y ∈ c) ⟨by show 0 + 1 * ev c x = _; omega, Nat.le_refl _, by simp, fun y hy => hy⟩ (fun y rest s hs => ?_) (fun s hs => ?_)
  · obtain ⟨t, p⟩ := s
    obtain ⟨h1, h2, h3, h4⟩ := hs
    have hl : rest.length + 1 ≤ c.length := h2
    have h3 : p.natAbs < 2 ^ (1 + 11 * (c.length - (rest.length + 1))) := h3
    try dsimp only
    refine ok_bind (ok_bind (okmul (hb y (h4 y List.mem_cons_self)) h3 (by omega) (ok_ret ?_)))
    refine ok_bind (okmul h3 (show x.natAbs < 2 ^ 10 by omega) (by omega) (ok_ret ⟨?_, by omega, ?_, fun z hz => h4 z (List.mem_cons_of_mem _ hz)⟩))
    · have h1 : t + p * (y + x * ev rest x) = ev c x := h1
      show t + y * p + p * x * ev rest x = ev c x
      rw [← h1, Int.mul_add, Int.mul_assoc, Int.mul_comm y p]
      omega
    · show (p * x).natAbs < _
      rw [Int.natAbs_mul, show 1 + 11 * (c.length - rest.length) = 11 + (1 + 11 * (c.length - (rest.length + 1))) by omega, Nat.pow_add, Nat.mul_comm]
      exact Nat.lt_of_le_of_lt (Nat.mul_le_mul_right _ hx) (by omega)
  · obtain ⟨t, p⟩ := s
    obtain ⟨h1, _⟩ := hs
    try dsimp only
    refine ok_ret ?_
    have h1 : t + p * 0 = ev c x := h1
    rw [← h1] at k
    simpa using k
end G
/-! the law's questions -/
namespace G
open PySem L2 M
theorem fld_value {c : Str} {f : Str} {x : Int} : fldI c f ⟨c, [(f, enc x)]⟩ = .ok x := by
  unfold fldI
  rw [if_pos rfl]
  have : List.lookup f [(f, (enc x : V))] = some (V.int x) := by simp [List.lookup, enc]; rfl
  dsimp only
  rw [this]
theorem is_Ok {e : List Int} {P : Bool → Prop} (h : e.length ≤ 1000) (k : P true) : Ok (m_law_is (PP e) e) P := by
  unfold m_law_is
  rw [if_neg (by decide), if_neg (by simp)]
  refine ok_bind (ok_rngR (by omega) (by omega) ?_)
  refine ok_bind ?_
  refine ok_forRN (a := 0) (b := e.length) (fun _ _ => True) (fun _ => False) (fun _ => False) (Nat.zero_le _) trivial (fun m s _ hm _ => ?_) (fun s _ => ?_) (fun _ z => z.elim) (fun _ z => z.elim)
  · have hm' : ((m : Nat) : Int) < ((PP e).v.1.l.length : Nat) := by show ((m : Nat) : Int) < (e.length : Nat); omega
    refine ok_bind (ok_bind (ok_lGetE (by omega) hm' fun hx => ?_))
    refine ok_bind (ok_ret ?_)
    rw [if_neg (by decide)]
    refine ok_bind (ok_bind (ok_lGetE (by omega) hm' fun h1 => ?_))
    refine ok_bind (ok_lGetE (by omega) (by omega) fun h2 => ?_)
    refine ok_ret (ok_ret ?_)
    try dsimp only
    rw [if_neg (by simp)]
    exact ok_ret trivial
  · try dsimp only
    refine ok_bind (ok_noX (ok_ret ?_))
    refine ok_bind (ok_ret ?_)
    rw [if_pos (by decide)]
    refine ok_bind (ok_noX (ok_ret ?_))
    refine ok_ret ?_
    rw [decide_eq_true (by rfl)]
    exact k
theorem is_Ok' {a b : List Int} {P : Bool → Prop} (e : a = b) (h : b.length ≤ 1000) (k : P true) : Ok (m_law_is (PP a) b) P := by
  subst e
  exact is_Ok h k
theorem d1 : ¬ ("TooMany" : Str) = "OutOfBounds" := by decide +kernel
theorem exM {fs : List (Str × V)} : is_TooMany ⟨"TooMany", fs⟩ = .ok true ∧ is_WordError ⟨"TooMany", fs⟩ = .ok true ∧ is_OutOfBounds ⟨"TooMany", fs⟩ = .ok false := by
  refine ⟨?_, ?_, ?_⟩
  · unfold is_TooMany; rw [if_neg d1, if_pos rfl]
  · unfold is_WordError; rw [if_neg d1, if_pos rfl]
  · unfold is_OutOfBounds; rw [if_neg d1, if_pos rfl]
theorem exO {fs : List (Str × V)} : is_TooMany ⟨"OutOfBounds", fs⟩ = .ok false ∧ is_WordError ⟨"OutOfBounds", fs⟩ = .ok true ∧ is_OutOfBounds ⟨"OutOfBounds", fs⟩ = .ok true := by
  refine ⟨?_, ?_, ?_⟩
  · unfold is_TooMany; rw [if_pos rfl]
  · unfold is_WordError; rw [if_pos rfl]
  · unfold is_OutOfBounds; rw [if_pos rfl]
theorem given_no {row : List Int} (h : 100 < row.length) : m_law_given_refused row = .ok true := by
  unfold m_law_given_refused
  rw [init_far h, Res.bind_exc, Res.catch_exc]
  rw [exM.1, Res.bind_ok, if_pos rfl, exM.2.1, Res.bind_ok, if_pos rfl, exM.2.2, Res.bind_ok, Res.bind_ok, if_pos (show (!false) = true from rfl), fld_value]
  rfl
theorem product_no {c d : List Int} (h : 101 < c.length + d.length) (hc : c ≠ []) (hd : d ≠ []) : m_law_product_refused (PP c) (PP d) = .ok true := by
  unfold m_law_product_refused
  rw [mul_far h hc hd, Res.bind_exc, Res.catch_exc]
  rw [exM.1, Res.bind_ok, if_pos rfl, exM.2.1, Res.bind_ok, if_pos rfl, exM.2.2, Res.bind_ok, Res.bind_ok, if_pos (show (!false) = true from rfl), fld_value]
  rfl
theorem power_far {x : Int} (h : x < 0 ∨ 99 < x) : m_Polynomial_power x = .exc ⟨"OutOfBounds", [("value", enc x)]⟩ := by
  unfold m_Polynomial_power m_check_range
  rw [if_pos (by simp; omega)]
  rfl
theorem power_no {x : Int} (h : x < 0 ∨ 99 < x) : m_law_power_refused x = .ok true := by
  unfold m_law_power_refused
  rw [power_far h, Res.bind_exc, Res.catch_exc]
  rw [exO.2.2, Res.bind_ok, if_pos rfl, exO.2.1, Res.bind_ok, if_pos rfl, exO.1, Res.bind_ok, Res.bind_ok, if_pos (show (!false) = true from rfl), fld_value, Res.bind_ok, decide_eq_true (rfl : x = x)]
  rfl
theorem value_no {c : List Int} {x : Int} (h : 1000 < x.natAbs) : m_law_value_refused (PP c) x = .ok true := by
  unfold m_law_value_refused
  rw [value_far h, Res.bind_exc, Res.catch_exc]
  rw [exO.2.2, Res.bind_ok, if_pos rfl, exO.2.1, Res.bind_ok, if_pos rfl, exO.1, Res.bind_ok, Res.bind_ok, if_pos (show (!false) = true from rfl), fld_value, Res.bind_ok, decide_eq_true (rfl : x = x)]
  rfl
theorem cut_one {n : Nat} {r : List Int} (c : Cut (List.replicate n 0 ++ [1]) r) : r = List.replicate n 0 ++ [1] := cut_self (.inr (by
  have e : (List.replicate n (0 : Int) ++ [1]).length - 1 = n := by simp
  rw [e, co_app, if_neg (by simp), List.length_replicate, Nat.sub_self]
  decide)) c
theorem flat_zero (n : Nat) : (List.replicate n [(0 : Int)]).flatten = List.replicate n 0 := List.flatten_replicate_singleton
theorem power_Ok {x : Int} {P : O_Polynomial → Prop} (h0 : 0 ≤ x) (h1 : x ≤ 99) (k : P (PP (List.replicate x.toNat 0 ++ [1]))) : Ok (m_Polynomial_power x) P := by
  unfold m_Polynomial_power
  refine ok_bind (ok_eq (a := ()) (by unfold m_check_range; exact if_neg (by simp; omega)) ?_)
  refine ok_bind (ok_lRep h0 (by omega) (by simp; omega) ?_)
  rw [flat_zero]
  refine ok_bind (ok_lCat (by simp; omega) ?_)
  refine ok_bind (init_Ok (by simp; omega) fun r hr => ok_ret ?_)
  rw [cut_one hr]
  exact k
/-! == -/
theorem lay_tup (xs : List Int) : PyData.canLay0 (Dat.toD (TupL.mk xs)) = true := lay_ints xs
theorem eq_Ok {a b : List Int} {P : Bool → Prop} (k : P (decide (a = b))) : Ok (m_Polynomial___eq (PP a) (PP b)) P := by
  unfold m_Polynomial___eq
  rw [if_pos rfl]
  refine ok_bind (ok_eq (a := decide (a = b)) ?_ (ok_ret k))
  unfold eqD
  rw [lay_tup, lay_tup, if_pos (show (true && true) = true from rfl)]
  have e : decide (TupL.mk a = TupL.mk b) = decide (a = b) := by
    by_cases h : a = b
    · rw [h]; simp
    · rw [decide_eq_false h, decide_eq_false fun z => h (TupL.mk.inj z)]
  show Res.ok (decide (TupL.mk a = TupL.mk b)) = _
  rw [e]
theorem eq_yes {a b : List Int} {P : Bool → Prop} (h : a = b) (k : P true) : Ok (m_Polynomial___eq (PP a) (PP b)) P := eq_Ok (by rw [decide_eq_true h]; exact k)
theorem eq_no {a b : List Int} {P : Bool → Prop} (h : a ≠ b) (k : P false) : Ok (m_Polynomial___eq (PP a) (PP b)) P := eq_Ok (by rw [decide_eq_false h]; exact k)
theorem unlike_Ok {row : List Int} {P : Bool → Prop} (ht : Tm row) (hl : row.length ≤ 50) (k : P true) : Ok (m_law_unlike (PP row) row) P := by
  unfold m_law_unlike
  have z2 : ∀ j, co ([0, 0] : List Int) j = 0 := co_rep 2
  have z1 : ∀ j, co ([0] : List Int) j = 0 := co_rep 1
  refine ok_bind ?_
  refine ok_bind (ok_lCat (by simp; omega) ?_)
  refine ok_bind (init_Ok (by simp; omega) fun r hr => ?_)
  have er : row = r := tm_ext ht hr.1 fun j => by rw [hr.2.2, co_zeros z2]
  refine ok_bind (eq_yes er ?_)
  rw [if_neg (by decide)]
  refine ok_bind (ok_lCat (by simp; omega) ?_)
  refine ok_bind (init_Ok (by simp; omega) fun r2 hr2 => ?_)
  have er2 : row = r2 := tm_ext ht hr2.1 fun j => by rw [hr2.2.2, co_zeros z1]
  refine ok_bind (eq_yes er2 (ok_ret ?_))
  try dsimp only
  rw [if_neg (by decide)]
  refine ok_bind (ok_rngR (by omega) (by omega) ?_)
  refine ok_bind ?_
  refine ok_forRN (a := 0) (b := row.length) (fun _ _ => True) (fun _ => False) (fun _ => False) (Nat.zero_le _) trivial (fun m s _ hm _ => ?_) (fun s _ => ?_) (fun _ z => z.elim) (fun _ z => z.elim)
  · refine ok_bind (ok_bind (ok_lGetE (by omega) (by omega) fun hx => ok_ret ?_))
    refine ok_bind (ok_lSet (by omega) (by omega) ?_)
    have e0 : row[((m : Nat) : Int).toNat] = co row m := (co_at hm).symm
    rw [e0, Int.toNat_natCast]
    have ne : ∀ r, Cut (row.set m (co row m + 1)) r → row ≠ r := fun r hr e => by
      have := hr.2.2 m
      rw [← e, co_set hm, if_pos rfl] at this
      omega
    refine ok_bind ?_
    refine ok_bind (init_Ok (by simp; omega) fun r hr => ?_)
    refine ok_bind (eq_no (ne r hr) ?_)
    rw [if_neg (by decide)]
    refine ok_bind (init_Ok (by simp; omega) fun r hr => ?_)
    refine ok_bind (eq_no (ne r hr) (ok_ret ?_))
    try dsimp only
    rw [if_neg (by decide)]
    exact ok_ret trivial
  · try dsimp only
    refine ok_bind ?_
    refine ok_bind (ok_lCat (by simp; omega) ?_)
    refine ok_bind (init_Ok (by simp; omega) fun r hr => ?_)
    refine ok_bind (eq_no (fun e => ?_) ?_)
    · have := hr.2.2 row.length
      rw [← e, co_out (Nat.le_refl _), co_app, if_neg (by omega), Nat.sub_self] at this
      exact absurd this (by decide)
    rw [if_neg (by decide)]
    refine ok_bind (ok_lCat (by simp; omega) ?_)
    refine ok_bind (init_Ok (by simp; omega) fun r hr => ?_)
    refine ok_bind (eq_no (fun e => ?_) (ok_ret ?_))
    · subst e
      have hs : ∀ j, co row (j + 1) = co row j := fun j => by
        rw [hr.2.2 (j + 1), co_app, if_neg (by simp)]
        rfl
      have h1 : ∀ j, co row j = 1 := fun j => by
        induction j with
        | zero =>
          rw [hr.2.2 0]
          rfl
        | succ j ih => rw [hs, ih]
      have := h1 row.length
      rw [co_out (Nat.le_refl _)] at this
      exact absurd this (by decide)
    try dsimp only
    rw [if_neg (by decide)]
    exact ok_bind (ok_eq (a := false) rfl (ok_ret k))
end G
/-! the pool of numbers, what is drawn of it -/
namespace G
open PySem L2 M
section
variable {α β S : Type} {P : α → Prop}
theorem mapS_inv {f : α → S → Res (β × S)} (Iv : S → Prop) (R : β → Prop) : ∀ {xs : List α} {s : S}, Iv s → (∀ x ∈ xs, ∀ s, Iv s → Ok (f x s) fun y => R y.1 ∧ Iv y.2) → Ok (mapS f xs s) fun y => y.1.length = xs.length ∧ (∀ b ∈ y.1, R b) ∧ Iv y.2
  | [], s, h, _ => ⟨_, rfl, rfl, fun b hb => (by simp at hb), h⟩
  | x :: xs, s, h, k => by
    show Ok ((f x s).bind fun y => (mapS f xs y.2).bind fun z => .ok (y.1 :: z.1, z.2)) _
    refine ok_bind (ok_mono (k x List.mem_cons_self s h) fun y hy => ?_)
    refine ok_bind (ok_mono (mapS_inv Iv R hy.2 fun x hx => k x (List.mem_cons_of_mem _ hx)) fun z hz => ?_)
    refine ok_ret ⟨by show (y.1 :: z.1).length = _; rw [List.length_cons, List.length_cons, hz.1], fun b hb => ?_, hz.2.2⟩
    rcases List.mem_cons.mp hb with e | e
    · rw [e]; exact hy.1
    · exact hz.2.1 b e
theorem ok_lcS {f : α → S → Res (β × S)} {xs : List α} {s : S} {Q : List β × S → Prop} (Iv : S → Prop) (R : β → Prop) (hl : xs.length ≤ 100000) (h : Iv s) (step : ∀ x ∈ xs, ∀ s, Iv s → Ok (f x s) fun y => R y.1 ∧ Iv y.2)
    (post : ∀ y : List β × S, y.1.length = xs.length → (∀ b ∈ y.1, R b) → Iv y.2 → Q y) : Ok (lcS f xs s) Q := by
  obtain ⟨y, e, h1, h2, h3⟩ := mapS_inv Iv R h step
  refine ⟨y, ?_, post y h1 h2 h3⟩
  unfold lcS
  rw [clo_eq, if_pos (show xs.length ≤ line from Nat.le_trans hl (by decide)), e]
theorem mapR_inv {f : α → Res β} (R : β → Prop) : ∀ {xs : List α}, (∀ x ∈ xs, Ok (f x) R) → Ok (mapR f xs) fun y => y.length = xs.length ∧ ∀ b ∈ y, R b
  | [], _ => ⟨_, rfl, rfl, fun b hb => (by simp at hb)⟩
  | x :: xs, k => by
    show Ok ((f x).bind fun y => (mapR f xs).bind fun z => .ok (y :: z)) _
    refine ok_bind (ok_mono (k x List.mem_cons_self) fun y hy => ?_)
    refine ok_bind (ok_mono (mapR_inv R fun x hx => k x (List.mem_cons_of_mem _ hx)) fun z hz => ?_)
    refine ok_ret ⟨by simp [hz.1], fun b hb => ?_⟩
    rcases List.mem_cons.mp hb with e | e
    · rw [e]; exact hy
    · exact hz.2 b e
theorem ok_lcI {f : α → Res β} {xs : List α} {Q : List β → Prop} (R : β → Prop) (hl : xs.length ≤ 100000) (step : ∀ x ∈ xs, Ok (f x) R) (post : ∀ y : List β, y.length = xs.length → (∀ b ∈ y, R b) → Q y) : Ok (lcM f xs) Q := by
  obtain ⟨y, e, h1, h2⟩ := mapR_inv R step
  refine ⟨y, ?_, post y h1 h2⟩
  unfold lcM
  rw [clo_eq, if_pos (show xs.length ≤ line from Nat.le_trans hl (by decide)), e]
end
theorem mix_Ok {cell k : Int} (h : -1000000000000000000 < cell ∧ cell < 1000000000000000000) (hk : 0 ≤ k ∧ k < 1000) : Ok (m_law_mix cell k) fun _ => True := by
  unfold m_law_mix
  refine ok_bind (ok_bind (ok_bind (ok_bind (ok_bind (okmul (a := 60) (b := 20) (by omega) (by omega) (by decide) (ok_bind (ok_mulI (by omega) (by omega) (ok_ret (ok_ret (ok_ret (ok_modI (by omega) ?_)))))))))))
  have a1 := Int.emod_nonneg (cell * 48271 + k * 69621 + 4951) (b := 2147483647) (by omega)
  have a2 := Int.emod_lt_of_pos (cell * 48271 + k * 69621 + 4951) (b := 2147483647) (by omega)
  refine ok_bind (ok_bind (ok_bind (ok_bind (ok_bind (ok_mulI (by omega) (by omega) (ok_bind (ok_mulI (by omega) (by omega) (ok_ret (ok_ret (ok_ret (ok_modI (by omega) ?_)))))))))))
  generalize (cell * 48271 + k * 69621 + 4951) % 2147483647 = one at a1 a2 ⊢
  have b1 := Int.emod_nonneg (one * one + k * 40692 + 7) (b := 2147483399) (by omega)
  have b2 := Int.emod_lt_of_pos (one * one + k * 40692 + 7) (b := 2147483399) (by omega)
  generalize (one * one + k * 40692 + 7) % 2147483399 = two at b1 b2 ⊢
  refine ok_bind (ok_bind (ok_bind (ok_bind (ok_bind (ok_mulI (by omega) (by omega) (ok_ret (ok_ret (ok_modI (by omega) (ok_divI (by omega) (by omega) (ok_ret trivial))))))))))
theorem abs_eq (x : Int) : (if x < 0 then -x else x) = (x.natAbs : Int) := by
  by_cases h : x < 0
  · rw [if_pos h]; omega
  · rw [if_neg h]; omega
theorem pool_Ok (s : List Int) (hs : s.length ≤ 63) : Ok (m_law_pool ⟨s⟩) fun _ => True := by
  unfold m_law_pool
  have em : min (63 : Int) ((s.length : Nat) : Int) = ((s.length : Nat) : Int) := by omega
  refine ok_bind (ok_ret (ok_bind (ok_ret ?_)))
  show Ok (Res.bind (rngR 0 (min (63 : Int) ((s.length : Nat) : Int))) _) _
  rw [em]
  refine ok_bind (ok_rngR (by omega) (by omega) (ok_bind ?_))
  refine ok_forN (a := 0) (b := s.length) (fun j (p : List Int × Int) => p.1.length ≤ 72 * j ∧ 0 ≤ p.2 ∧ p.2 ≤ 7 + 64000192 * (j : Int)) (Nat.zero_le _) ⟨by simp, by show (0 : Int) ≤ 7; omega, by show (7 : Int) ≤ _; omega⟩ (fun j p _ hj hp => ?_) (fun p hp => ?_)
  · obtain ⟨pool, total⟩ := p
    obtain ⟨h1, h2, h3⟩ := hp
    try dsimp only at h1 h2 h3 ⊢
    refine ok_bind (ok_bind (ok_bind (ok_ret (ok_lGetE (by omega) (by show ((j : Nat) : Int) < (s.length : Nat); omega) fun hx => ok_ret ?_))))
    generalize s[((j : Nat) : Int).toNat]'hx = cell
    rw [abs_eq]
    refine ok_bind (ok_bind (ok_bind (ok_modI (by omega) ?_)))
    have a1 := Int.emod_nonneg cell (b := 1000003) (by omega)
    have a2 := Int.emod_lt_of_pos cell (b := 1000003) (by omega)
    generalize cell % 1000003 = r at a1 a2 ⊢
    refine ok_mulI (by omega) (by omega) (ok_ret ?_)
    have a3 : 0 ≤ ((j : Int) + 1) * r := Int.mul_nonneg (by omega) a1
    have a4 : ((j : Int) + 1) * r ≤ 64 * r := Int.mul_le_mul_of_nonneg_right (by omega) a1
    have h2' : 0 ≤ total + ((j : Int) + 1) * r := by omega
    have h3' : total + ((j : Int) + 1) * r ≤ 7 + 64000192 * ((j : Int) + 1) := by omega
    generalize total + ((j : Int) + 1) * r = total' at h2' h3' ⊢
    refine ok_bind (ok_modI (by decide +kernel) ?_)
    generalize (cell.natAbs : Int) % _ = left
    refine ok_bind ?_
    refine ok_mono (Q := fun p : List Int × Int => p.1.length ≤ 72 * j + 8) ?_ ?_
    · refine ok_ite (fun c => ?_) (fun c => ok_ret (by show pool.length ≤ _; omega))
      have c := of_decide_eq_true c
      refine ok_bind (ok_rngR (by omega) (by omega) ?_)
      refine ok_bind (ok_lcI (fun _ => True) (by rw [rng_len]; omega) (fun x hx => ?_) fun y hy _ => ?_)
      · have hx := mem_rng.mp hx
        refine ok_bind (ok_bind (ok_mulI (by omega) (by omega) (ok_ret ?_)))
        exact ok_bind (ok_noX (ok_mono (mix_Ok (by omega) (by omega)) fun _ _ => ok_ret trivial))
      rw [rng_len] at hy
      refine ok_bind (ok_lCat (by omega) ?_)
      refine ok_bind (ok_ret (ok_ret ?_))
      show (pool ++ y).length ≤ _
      rw [List.length_append]
      omega
    rintro ⟨pool2, left2⟩ h4
    try dsimp only at h4 ⊢
    refine ok_bind (ok_rngR (by omega) (by omega) (ok_bind ?_))
    refine ok_forN (a := 0) (b := 64) (fun i (p : List Int × Int) => p.1.length ≤ 72 * j + 8 + i) (Nat.zero_le _) h4 (fun i p _ hi hp => ?_) (fun p hp => ?_)
    · obtain ⟨pool3, left3⟩ := p
      have hp : pool3.length ≤ 72 * j + 8 + i := hp
      try dsimp only
      refine ok_bind ?_
      refine ok_ite (fun c => ?_) (fun c => ok_ret (ok_ret (by show pool3.length ≤ _; omega)))
      refine ok_bind (ok_modI (by omega) (ok_bind (ok_lApp (by omega) (ok_bind (ok_divI (by omega) (by omega) (ok_ret (ok_ret ?_)))))))
      show (pool3 ++ _).length ≤ _
      simp
      omega
    · obtain ⟨pool3, left3⟩ := p
      have hp : pool3.length ≤ 72 * j + 8 + 64 := hp
      try dsimp only
      exact ok_ret ⟨by show pool3.length ≤ _; omega, h2', by show total' ≤ _; omega⟩
  · obtain ⟨pool, total⟩ := p
    obtain ⟨h1, h2, h3⟩ := hp
    try dsimp only at h1 h2 h3 ⊢
    refine ok_bind (ok_rngR (by omega) (by omega) ?_)
    refine ok_bind (ok_lcI (fun _ => True) (by rw [rng_len]; omega) (fun x hx => ?_) fun y hy _ => ?_)
    · have hx := mem_rng.mp hx
      exact ok_bind (ok_noX (ok_mono (mix_Ok (by omega) (by omega)) fun _ _ => ok_ret trivial))
    rw [rng_len] at hy
    refine ok_bind (ok_lCat (by omega) ?_)
    exact ok_ret trivial
/-- a number below size -/
theorem take_Ok {p : List Int} {n : Int} (h : 0 < n) : Ok (m_law_take p n) fun r => 0 ≤ r.1 ∧ r.1 < n := by
  unfold m_law_take
  refine ok_ite (fun _ => ok_ret ⟨by show (0 : Int) ≤ 0; omega, h⟩) (fun c => ?_)
  have c : p.length ≠ 0 := by simpa using c
  have hl : p.length - 1 < p.length := by omega
  refine ok_bind (ok_eq (a := (p[p.length - 1], p.dropLast)) ?_ (ok_bind (ok_ret (ok_bind (ok_modI h (ok_ret ?_))))))
  · unfold lPop
    rw [List.getElem?_eq_getElem hl]
  · exact ⟨Int.emod_nonneg _ (by omega), Int.emod_lt_of_pos _ h⟩
theorem number_Ok {p : List Int} : Ok (m_law_number p) fun r => r.1.natAbs < 2 ^ 200 := by
  unfold m_law_number
  have z : (0 : Int).natAbs < 2 ^ 200 := by decide +kernel
  refine ok_bind (ok_mono (take_Ok (by omega)) fun t ht => ?_)
  refine ok_ite (fun _ => ok_ret z) (fun _ => ?_)
  refine ok_ite (fun _ => ?_) (fun _ => ?_)
  · refine ok_bind (ok_mono (take_Ok (by omega)) fun t ht => ok_bind (ok_ret (ok_ret ?_)))
    exact lt_pw (show (t.1 - 4).natAbs < 2 ^ 4 by omega) (by decide)
  refine ok_bind (ok_mono (take_Ok (by omega)) fun a ha => ok_bind (ok_ret ?_))
  refine ok_bind (ok_mono (take_Ok (by omega)) fun b hb => ?_)
  refine ok_bind (ok_rngR (by omega) (by omega) (ok_bind ?_))
  obtain ⟨n, hn⟩ : ∃ n : Nat, b.1 = (n : Int) := ⟨b.1.toNat, by omega⟩
  rw [hn]
  refine ok_forN (a := 0) (b := n) (fun i (s : List Int × Int) => s.2.natAbs < 2 ^ (13 + 14 * i)) (Nat.zero_le _) (by show (1 + a.1).natAbs < 2 ^ 13; omega) (fun i s _ hi hs => ?_) (fun s hs => ?_)
  · obtain ⟨q, m⟩ := s
    have hs : m.natAbs < 2 ^ (13 + 14 * i) := hs
    try dsimp only
    refine ok_bind (okmul (b := 13) hs (by omega) (by omega) ?_)
    refine ok_bind (ok_mono (take_Ok (by omega)) fun t ht => ok_bind (ok_ret (ok_ret ?_)))
    show (m * 5040 + t.1).natAbs < 2 ^ (13 + 14 * (i + 1))
    rw [show 13 + 14 * (i + 1) = 14 + (13 + 14 * i) by omega, Nat.pow_add]
    have : (2 : Nat) ^ 14 = 16384 := by decide
    rw [this]
    generalize 2 ^ (13 + 14 * i) = w at hs ⊢
    omega
  · obtain ⟨q, m⟩ := s
    have hs : m.natAbs < 2 ^ (13 + 14 * n) := hs
    have hs := lt_pw hs (show 13 + 14 * n ≤ 200 by omega)
    try dsimp only
    refine ok_ite (fun _ => ok_ret ?_) (fun _ => ok_ret hs)
    show (0 - m).natAbs < _
    have : (0 - m).natAbs = m.natAbs := by omega
    rw [this]
    exact hs
theorem list_Ok {p : List Int} : Ok (m_law_list p) fun r => r.1.length ≤ 12 ∧ ∀ x ∈ r.1, x.natAbs < 2 ^ 200 := by
  unfold m_law_list
  refine ok_bind (ok_mono (take_Ok (by omega)) fun t ht => ?_)
  refine ok_bind (ok_rngR (by omega) (by omega) ?_)
  refine ok_bind (ok_lcS (fun _ => True) (fun x : Int => x.natAbs < 2 ^ 200) (by rw [rng_len]; omega) trivial (fun x _ s _ => ?_) fun y hy hb _ => ?_)
  · exact ok_bind (ok_noX (ok_mono number_Ok fun r hr => ok_ret ⟨hr, trivial⟩))
  rw [rng_len] at hy
  refine ok_bind (ok_mono (take_Ok (by omega)) fun u hu => ?_)
  refine ok_bind (ok_rngR (by omega) (by omega) ?_)
  refine ok_bind (zeros_Ok (by omega) (by omega) ?_ rfl)
  refine ok_bind (ok_lCat (by rw [List.length_replicate]; omega) (ok_ret ⟨?_, fun x hx => ?_⟩))
  · show (y.1 ++ _).length ≤ 12
    rw [List.length_append, List.length_replicate]
    omega
  · rcases List.mem_append.mp hx with hx | hx
    · exact hb x hx
    · rw [(List.mem_replicate.mp hx).2]
      decide +kernel
/-- many coefficients, the last is not 0 -/
def Lng (n : Int) (r : List Int) : Prop := (r.length : Int) = n ∧ (∀ x ∈ r, x.natAbs ≤ 9) ∧ co r (r.length - 1) ≠ 0
theorem long_Ok {p : List Int} {n : Int} (h1 : 1 ≤ n) (h2 : n ≤ 100) : Ok (m_law_long p n) fun r => Lng n r.1 := by
  unfold m_law_long
  refine ok_bind (ok_mono (take_Ok (by omega)) fun a ha => ok_bind (ok_ret ?_))
  refine ok_bind (ok_mono (take_Ok (by omega)) fun b hb => ?_)
  refine ok_bind (ok_rngR (by omega) (by omega) ?_)
  refine ok_bind (ok_lcI (fun x : Int => x.natAbs ≤ 9) (by rw [rng_len]; omega) (fun x hx => ?_) fun y hy hb' => ?_)
  · have hx := mem_rng.mp hx
    refine ok_bind (ok_bind (ok_bind (ok_bind (ok_bind (ok_mulI (by omega) (by omega) (ok_bind (ok_bind (ok_divI (by omega) (by omega) ?_))))))))
    have d1 : 0 ≤ x / 3 := Int.ediv_nonneg (by omega) (by omega)
    have d2 : x / 3 ≤ x := Int.ediv_le_self _ (by omega)
    refine ok_mulI (by omega) (by omega) (ok_ret (ok_ret (ok_modI (by omega) (ok_ret (ok_ret ?_)))))
    have e1 := Int.emod_nonneg ((1 + a.1) * x + b.1 * (x / 3)) (b := 7) (by omega)
    have e2 := Int.emod_lt_of_pos ((1 + a.1) * x + b.1 * (x / 3)) (b := 7) (by omega)
    omega
  rw [rng_len] at hy
  refine ok_bind (ok_mono (take_Ok (by omega)) fun u hu => ok_bind (ok_ret ?_))
  refine ok_bind (ok_lCat (by simp; omega) (ok_ret ⟨?_, fun x hx => ?_, ?_⟩))
  · show (((y ++ [1 + u.1]).length : Nat) : Int) = n
    rw [List.length_append]
    simp
    omega
  · rcases List.mem_append.mp hx with hx | hx
    · exact hb' x hx
    · rw [List.mem_singleton.mp hx]
      omega
  · show co (y ++ [1 + u.1]) ((y ++ [1 + u.1]).length - 1) ≠ 0
    have e : (y ++ [1 + u.1]).length - 1 = y.length := by simp
    rw [e, co_app, if_neg (by omega), Nat.sub_self]
    show (1 + u.1 : Int) ≠ 0
    omega
end G
/-! the law's questions, together -/
namespace G
open PySem L2 M
theorem tm_far {r : List Int} {N : Nat} (h : Tm r) (z : ∀ k, N ≤ k → co r k = 0) : r.length ≤ N := by
  rcases h with rfl | h
  · exact Nat.zero_le _
  · exact Nat.le_of_not_lt fun q => h (z _ (by omega))
theorem mem_co {c : List Int} {y : Int} (h : y ∈ c) : ∃ k, y = co c k := by
  obtain ⟨k, hk, e⟩ := List.mem_iff_getElem.mp h
  exact ⟨k, by rw [co_at hk, e]⟩
theorem co_mem {c : List Int} {Q : Int → Prop} (h0 : Q 0) (h : ∀ y ∈ c, Q y) (k : Nat) : Q (co c k) := by
  by_cases hk : k < c.length
  · rw [co_at hk]
    exact h _ (List.getElem_mem _)
  · rw [co_out (by omega)]
    exact h0
/-- coefficients of a fair size -/
def Bc (c : List Int) : Prop := ∀ k, (co c k).natAbs < 2 ^ 200
theorem Bc.big {c : List Int} (h : Bc c) (k : Nat) : (co c k).natAbs < 2 ^ 900 := lt_pw (h k) (by decide)
theorem Bc.all {c : List Int} (h : Bc c) : ∀ y ∈ c, y.natAbs < 2 ^ 900 := fun y hy => by
  obtain ⟨k, rfl⟩ := mem_co hy
  exact h.big k
theorem sums_Ok {c d : List Int} {P : Bool → Prop} (lc : c.length ≤ 50) (ld : d.length ≤ 50) (bc : Bc c) (bd : Bc d) (k : P true) : Ok (m_law_sums (PP c) c (PP d) d) P := by
  unfold m_law_sums
  refine ok_bind (add_Ok (by omega) (by omega) fun xs r hr er => ?_)
  refine ok_bind (plus_Ok (by omega) (by omega) bd.big (by decide) fun ys s hs es => ?_)
  refine ok_bind (is_Ok' (cut_uniq hr hs fun k => by rw [er, es]; omega) (Nat.le_trans (tm_far (N := 50) hs.1 fun k hk => by rw [hs.2.2, es, co_out (by omega), co_out (by omega)]; rfl) (by decide)) ?_)
  rw [if_neg (by decide)]
  refine ok_bind (sub_Ok (by omega) (by omega) fun xs r hr er => ?_)
  refine ok_bind (plus_Ok (by omega) (by omega) bd.big (by decide) fun ys s hs es => ?_)
  refine ok_bind (is_Ok' (cut_uniq hr hs fun k => by rw [er, es]; omega) (Nat.le_trans (tm_far (N := 50) hs.1 fun k hk => by rw [hs.2.2, es, co_out (by omega), co_out (by omega)]; rfl) (by decide)) ?_)
  rw [if_neg (by decide)]
  refine ok_bind (sub_Ok (by omega) (by omega) fun xs r hr er => ?_)
  refine ok_bind (plus_Ok (by omega) (by omega) bc.big (by decide) fun ys s hs es => ?_)
  refine ok_bind (is_Ok' (cut_uniq hr hs fun k => by rw [er, es]; omega) (Nat.le_trans (tm_far (N := 50) hs.1 fun k hk => by rw [hs.2.2, es, co_out (by omega), co_out (by omega)]; rfl) (by decide)) ?_)
  rw [if_neg (by decide)]
  refine ok_bind (mul_Ok (by omega) (by omega) (.inr (.inr (by omega))) bc.big bd.big fun xs r hr er => ?_)
  refine ok_bind (times_Ok (by omega) (by omega) bc.big bd.big fun ys s hs es => ?_)
  refine ok_bind (is_Ok' (cut_uniq hr hs fun k => by rw [er, es]) (Nat.le_trans (tm_far (N := 100) hs.1 fun k hk => by rw [hs.2.2, es, prd_far (by omega)]) (by decide)) ?_)
  rw [if_neg (by decide)]
  refine ok_bind (is_Ok (by omega) ?_)
  rw [if_pos rfl]
  exact ok_bind (is_Ok (by omega) (ok_ret k))
theorem values_Ok {c : List Int} {xs : List Int} {P : Bool → Prop} (hc : c.length ≤ 1000) (hb : ∀ y ∈ c, y.natAbs < 2 ^ 900) (hx : ∀ x ∈ xs, x.natAbs ≤ 1000) (k : P true) : Ok (m_law_values (PP c) c xs) P := by
  unfold m_law_values
  refine ok_bind ?_
  refine ok_forRL (fun rest _ => ∀ x ∈ rest, x.natAbs ≤ 1000) (fun _ => False) (fun _ => False) hx (fun x rest s hr => ?_) (fun s _ => ok_ret k) (fun _ z => z.elim) (fun _ z => z.elim)
  refine ok_bind (value_Ok (hr x List.mem_cons_self) hc hb (ok_bind (ok_bind (ok_ret ?_))))
  rw [if_neg (by decide)]
  refine ok_bind (lvalue_Ok (hr x List.mem_cons_self) hc hb (ok_ret ?_))
  try dsimp only
  rw [if_neg (by simp)]
  exact ok_ret fun z hz => hr z (List.mem_cons_of_mem _ hz)
theorem bounds_Ok {p : List Int} {c : List Int} : Ok (m_law_bounds p (PP c)) fun r => r.1 = true := by
  unfold m_law_bounds
  refine ok_bind (ok_mono (take_Ok (by omega)) fun t ht => ok_bind (ok_ret (ok_bind ?_)))
  refine ok_forRL (fun rest _ => ∀ x ∈ rest, 1000 < x.natAbs) (fun _ => False) (fun _ => False) (fun x hx => ?_) (fun x rest s hr => ?_) (fun s _ => ?_) (fun _ z => z.elim) (fun _ z => z.elim)
  · simp at hx
    omega
  · refine ok_bind (ok_eq (value_no (hr x List.mem_cons_self)) ?_)
    rw [if_neg (by decide)]
    exact ok_ret fun z hz => hr z (List.mem_cons_of_mem _ hz)
  try dsimp only
  refine ok_bind (ok_mono (take_Ok (by omega)) fun u hu => ok_bind ?_)
  refine ok_forRL (fun rest _ => ∀ x ∈ rest, 0 ≤ x ∧ x ≤ 99) (fun _ => False) (fun _ => False) (fun x hx => ?_) (fun x rest s hr => ?_) (fun s _ => ?_) (fun _ z => z.elim) (fun _ z => z.elim)
  · simp at hx
    omega
  · obtain ⟨x0, x1⟩ := hr x List.mem_cons_self
    refine ok_bind (power_Ok x0 x1 ?_)
    refine ok_bind (ok_rngR (by omega) (by omega) ?_)
    refine ok_bind (zeros_Ok (by omega) (by omega) ?_ rfl)
    refine ok_bind (ok_lCat (by simp; omega) ?_)
    refine ok_bind (is_Ok (by simp; omega) ?_)
    rw [if_neg (by decide)]
    exact ok_ret fun z hz => hr z (List.mem_cons_of_mem _ hz)
  try dsimp only
  refine ok_bind ?_
  refine ok_forRL (fun rest _ => ∀ x ∈ rest, x < 0 ∨ 99 < x) (fun _ => False) (fun _ => False) (fun x hx => ?_) (fun x rest s hr => ?_) (fun s _ => ?_) (fun _ z => z.elim) (fun _ z => z.elim)
  · simp at hx
    omega
  · refine ok_bind (ok_eq (power_no (hr x List.mem_cons_self)) ?_)
    rw [if_neg (by decide)]
    exact ok_ret fun z hz => hr z (List.mem_cons_of_mem _ hz)
  exact ok_ret rfl
theorem Lng.tm {n : Int} {r : List Int} (h : Lng n r) : Tm r := .inr h.2.2
theorem Lng.bc {n : Int} {r : List Int} (h : Lng n r) : Bc r := fun k => co_mem (Q := fun x => x.natAbs < 2 ^ 200) (by decide +kernel) (fun y hy => Nat.lt_of_le_of_lt (h.2.1 y hy) (by decide +kernel)) k
theorem Lng.ne {n : Int} {r : List Int} (h : Lng n r) (h1 : 1 ≤ n) : r ≠ [] := fun e => by
  have := h.1
  rw [e] at this
  simp at this
  omega
theorem Lng.nine {n : Int} {r : List Int} (h : Lng n r) (k : Nat) : (co r k).natAbs ≤ 9 := co_mem (Q := fun x => x.natAbs ≤ 9) (by decide) h.2.1 k
theorem prdc_len {a b : Int} {c d r xs : List Int} (hc : Lng a c) (hd : Lng b d) (h1 : 1 ≤ a) (h2 : 1 ≤ b) (hr : Cut xs r) (e : ∀ j, co xs j = prd c d j) : (r.length : Int) = a + b - 1 := by
  obtain ⟨la, _, ta⟩ := hc
  obtain ⟨lb, _, tb⟩ := hd
  have q := prd_top (c := c) (d := d) (a := c.length - 1) (b := d.length - 1) (by omega) (by omega)
  have ne : co r (c.length - 1 + (d.length - 1)) ≠ 0 := by
    rw [hr.2.2, e, q]
    exact Int.mul_ne_zero ta tb
  have l1 : c.length - 1 + (d.length - 1) < r.length := Nat.lt_of_not_le fun z => ne (co_out z)
  have l2 : r.length ≤ c.length + d.length - 1 := tm_far hr.1 fun k hk => by rw [hr.2.2, e, prd_far (by omega)]
  omega
theorem limits_Ok {p : List Int} : Ok (m_law_limits p) fun r => r.1 = true := by
  unfold m_law_limits
  refine ok_bind (ok_mono (take_Ok (by omega)) fun t ht => ok_bind (ok_ret ?_))
  obtain ⟨n, hn⟩ : ∃ n, 2 + t.1 = n := ⟨_, rfl⟩
  rw [hn]
  refine ok_bind (ok_mono (long_Ok (by omega) (by omega)) fun l hl => ?_)
  refine ok_bind (ok_mono (long_Ok (by omega) (by omega)) fun r hr => ?_)
  refine ok_bind (ok_mono (long_Ok (by omega) (by omega)) fun m hm => ?_)
  obtain ⟨left, p1⟩ := l
  obtain ⟨right, p2⟩ := r
  obtain ⟨more, p3⟩ := m
  try dsimp only at hl hr hm ⊢
  have ll := hl.1
  have lr := hr.1
  have lm := hm.1
  refine ok_bind (init_Ok (by omega) fun r1 c1 => ok_bind (ok_ret ?_))
  have e1 := cut_self hl.tm c1
  subst e1
  refine ok_bind (init_Ok (by omega) fun r2 c2 => ok_bind (ok_ret ?_))
  have e2 := cut_self hr.tm c2
  subst e2
  refine ok_bind (times_Ok (by omega) (by omega) hl.bc.big hr.bc.big fun ys due hd ed => ?_)
  have ldue := prdc_len hl hr (by omega) (by omega) hd ed
  have l100 : (due.length : Int) = 100 := by omega
  have bdue : ∀ y ∈ due, y.natAbs < 2 ^ 900 := fun y hy => by
    obtain ⟨k, rfl⟩ := mem_co hy
    rw [hd.2.2, ed]
    refine Nat.lt_of_le_of_lt (prd_bd hl.nine hr.nine k) (Nat.lt_of_le_of_lt (m := 100 * (100 * 81)) ?_ (by decide +kernel))
    exact Nat.mul_le_mul (by omega) (Nat.mul_le_mul (by omega) (Nat.le_refl _))
  refine ok_bind ?_
  rw [if_neg (by simp; omega)]
  refine ok_bind (mul_Ok (by omega) (by omega) (.inr (.inr (by omega))) hl.bc.big hr.bc.big fun xs q hq eq => ?_)
  refine ok_bind (is_Ok' (cut_uniq hq hd fun k => by rw [eq, ed]) (by omega) (ok_ret ?_))
  try dsimp only
  rw [if_neg (by decide)]
  refine ok_bind (init_Ok (by omega) fun r3 c3 => ok_bind (ok_ret ?_))
  have e3 := cut_self hm.tm c3
  subst e3
  refine ok_bind ?_
  refine ok_bind (ok_eq (product_no (by omega) (hl.ne (by omega)) (hm.ne (by omega))) ?_)
  rw [if_neg (by decide)]
  refine ok_bind (ok_eq (product_no (by omega) (hm.ne (by omega)) (hl.ne (by omega))) (ok_ret ?_))
  try dsimp only
  rw [if_neg (by decide)]
  refine ok_bind ?_
  refine ok_bind (mul_Ok (by omega) (by omega) (.inr (.inr (by omega))) hr.bc.big hl.bc.big fun xs q hq eq => ?_)
  refine ok_bind (is_Ok' (cut_uniq hq hd fun k => by rw [eq, ed, prd_comm]) (by omega) ?_)
  rw [if_neg (by decide)]
  refine ok_bind (init_Ok (by decide) fun r4 c4 => ?_)
  have e4 : r4 = [] := tm_ext c4.1 (.inl rfl) fun k => by rw [c4.2.2, co_nil]; exact co_rep 2 k
  subst e4
  refine ok_bind (mul_Ok (by omega) (by decide) (.inr (.inl rfl)) hl.bc.big (fun k => by rw [co_nil]; decide +kernel) fun xs q hq eq => ?_)
  refine ok_bind (is_Ok' (tm_ext hq.1 (.inl rfl) fun k => by rw [hq.2.2, eq, co_nil, prd_nil (.inr rfl)]) (by decide) (ok_ret ?_))
  try dsimp only
  rw [if_neg (by decide)]
  refine ok_bind (mul_Ok (by omega) (by omega) (.inr (.inr (by omega))) hl.bc.big hr.bc.big fun xs q hq eq => ?_)
  have eqd : q = due := cut_uniq hq hd fun k => by rw [eq, ed]
  subst eqd
  refine ok_bind (values_Ok (by omega) bdue (fun x hx => by simp at hx; omega) ?_)
  rw [if_neg (by decide)]
  refine ok_bind (ok_mono (long_Ok (by omega) (by omega)) fun f hf => ?_)
  obtain ⟨full, p4⟩ := f
  try dsimp only at hf ⊢
  have lf := hf.1
  refine ok_bind ?_
  refine ok_bind (init_Ok (by omega) fun r5 c5 => ?_)
  have e5 := cut_self hf.tm c5
  subst e5
  refine ok_bind (is_Ok (by omega) ?_)
  rw [if_neg (by decide)]
  refine ok_bind (ok_lCat (by simp; omega) ?_)
  refine ok_bind (ok_eq (given_no (by simp; omega)) (ok_ret ?_))
  try dsimp only
  rw [if_neg (by decide)]
  refine ok_bind (ok_lCat (by simp; omega) ?_)
  refine ok_bind (ok_eq (given_no (by simp; omega)) ?_)
  rw [if_pos rfl]
  refine ok_bind (ok_rngR (by omega) (by omega) ?_)
  refine ok_bind (zeros_Ok (by omega) (by omega) ?_ rfl)
  exact ok_bind (ok_eq (given_no (by rw [List.length_replicate]; omega)) (ok_ret rfl))
end G
namespace G
open PySem L2 M
theorem neD_same {xs : List Int} : neD xs xs = .ok false := by
  unfold neD
  rw [lay_ints, if_pos (show (true && true) = true from rfl), decide_eq_true (rfl : xs = xs)]
  rfl
theorem law_all : ∀ ns : List Int, ns.length ≤ 63 → m_law ⟨ns⟩ = .ok true := by
  intro ns h
  refine Ok.get ?_
  unfold m_law
  refine ok_bind (ok_mono (pool_Ok ns h) fun p _ => ?_)
  refine ok_bind (ok_mono list_Ok fun a ha => ?_)
  refine ok_bind (ok_mono list_Ok fun b hb => ?_)
  obtain ⟨first, p1⟩ := a
  obtain ⟨second, p2⟩ := b
  obtain ⟨la, ba⟩ := ha
  obtain ⟨lb, bb⟩ := hb
  try dsimp only at la ba lb bb ⊢
  refine ok_bind (trimmed_Ok (by omega) fun left hl => ?_)
  refine ok_bind (trimmed_Ok (by omega) fun right hr => ?_)
  have z : (0 : Int).natAbs < 2 ^ 200 := by decide +kernel
  have bl : Bc left := fun k => by rw [hl.2.2]; exact co_mem (Q := fun x => x.natAbs < 2 ^ 200) z ba k
  have br : Bc right := fun k => by rw [hr.2.2]; exact co_mem (Q := fun x => x.natAbs < 2 ^ 200) z bb k
  have ll : left.length ≤ 12 := Nat.le_trans hl.2.1 la
  have lr : right.length ≤ 12 := Nat.le_trans hr.2.1 lb
  refine ok_bind (init_Ok (by omega) fun r c => ok_bind (ok_ret ?_))
  have e := cut_uniq c hl fun _ => rfl
  subst e
  refine ok_bind (ok_eq neD_same ?_)
  rw [if_neg (by decide)]
  refine ok_bind (ok_lApp (by omega) ?_)
  refine ok_bind (ok_bind (ok_lGetE (by omega) (by simp <;> omega) fun hx => ok_ret ?_))
  refine ok_bind (ok_lSet (by omega) (by simp <;> omega) ?_)
  rw [init2_eq]
  refine ok_bind (init_Ok (by omega) fun r2 c2 => ok_bind (ok_ret ?_))
  have e2 := cut_uniq c2 hr fun _ => rfl
  subst e2
  refine ok_bind (ok_rngR (by omega) (by omega) (ok_bind ?_))
  refine ok_forRN (a := 0) (b := 2) (fun _ _ => True) (fun _ => False) (fun _ => False) (by omega) trivial (fun m s _ hm _ => ?_) (fun s _ => ?_) (fun _ z => z.elim) (fun _ z => z.elim)
  · refine ok_bind (sums_Ok (by omega) (by omega) bl br ?_)
    rw [if_neg (by decide)]
    refine ok_bind (sums_Ok (by omega) (by omega) br bl ?_)
    rw [if_neg (by decide)]
    exact ok_ret trivial
  try dsimp only
  refine ok_bind (init_Ok (by decide) fun r3 c3 => ok_bind (ok_ret ?_))
  have e3 : r3 = [] := cut_self (.inl rfl) c3
  subst e3
  have b0 : Bc [] := fun k => by rw [co_nil]; exact z
  refine ok_bind ?_
  refine ok_bind (is_Ok (by decide) ?_)
  rw [if_neg (by decide)]
  refine ok_bind (sums_Ok (by omega) (by decide) bl b0 (ok_ret ?_))
  try dsimp only
  rw [if_neg (by decide)]
  refine ok_bind ?_
  refine ok_bind (sub_Ok (by omega) (by omega) fun xs r4 c4 e4 => ?_)
  refine ok_bind (is_Ok' (tm_ext c4.1 (.inl rfl) fun k => by rw [c4.2.2, e4, co_nil]; omega) (by decide) ?_)
  rw [if_neg (by decide)]
  refine ok_bind (sums_Ok (by omega) (by omega) bl bl (ok_ret ?_))
  try dsimp only
  rw [if_neg (by decide)]
  refine ok_bind (ok_mono (take_Ok (by omega)) fun t ht => ok_bind (ok_ret (ok_bind (ok_ret ?_))))
  have hn : ∀ x ∈ [t.1 - 1000, (-1000 : Int), (1000 : Int), (-1 : Int), (0 : Int), (1 : Int), (2 : Int)], x.natAbs ≤ 1000 := fun x hx => by
    simp at hx
    omega
  refine ok_bind ?_
  refine ok_bind (values_Ok (by omega) bl.all hn ?_)
  rw [if_neg (by decide)]
  refine ok_bind (values_Ok (by omega) br.all hn (ok_ret ?_))
  try dsimp only
  rw [if_neg (by decide)]
  refine ok_bind ?_
  refine ok_bind (values_Ok (by decide) b0.all hn ?_)
  rw [if_neg (by decide)]
  refine ok_bind (unlike_Ok hl.1 (by omega) (ok_ret ?_))
  try dsimp only
  rw [if_neg (by decide)]
  refine ok_bind ?_
  refine ok_bind (unlike_Ok hr.1 (by omega) ?_)
  rw [if_neg (by decide)]
  refine ok_bind (ok_mono bounds_Ok fun u hu => ok_ret ?_)
  obtain ⟨u1, p5⟩ := u
  have hu : u1 = true := hu
  subst hu
  try dsimp only
  rw [if_neg (by decide)]
  refine ok_bind (ok_mono limits_Ok fun v hv => ?_)
  obtain ⟨v1, p6⟩ := v
  have hv : v1 = true := hv
  subst hv
  rw [if_pos rfl]
  refine ok_bind (is_Ok (by omega) ?_)
  rw [if_pos rfl]
  exact ok_bind (is_Ok (by omega) (ok_ret rfl))
end G
namespace G
open PySem PySem.Spec PyProof.Rows L2 M
def top (i : Nat) : Stmt := PySem.Challenge.pw_wordruns_k24_polynomials.main.body.getD i (.Pass ⟨0, 0, 0, 0⟩)
abbrev s_check_range : Stmt := top 5
abbrev N_check_range : List Str := ["value", "low", "high"]
theorem sc_check_range : FnScope N_check_range ["value", "low", "high"] (defScope s_check_range) := ⟨rfl, rfl, rfl, by decide +kernel, rfl, by decide +kernel, by decide +kernel⟩

abbrev s_check_many : Stmt := top 6
abbrev N_check_many : List Str := ["things", "most"]
theorem sc_check_many : FnScope N_check_many ["things", "most"] (defScope s_check_many) := ⟨rfl, rfl, rfl, by decide +kernel, rfl, by decide +kernel, by decide +kernel⟩

abbrev s_Polynomial___init : Stmt := (clsBody (top 10)).getD 0 (.Pass ⟨0, 0, 0, 0⟩)
abbrev N_Polynomial___init : List Str := ["self", "coefficients", "size"]
theorem sc_Polynomial___init : FnScope N_Polynomial___init ["self", "coefficients"] (defScope s_Polynomial___init) := ⟨rfl, rfl, rfl, by decide +kernel, rfl, by decide +kernel, by decide +kernel⟩

abbrev s_Polynomial___init___v2 : Stmt := (clsBody (top 10)).getD 0 (.Pass ⟨0, 0, 0, 0⟩)
abbrev N_Polynomial___init___v2 : List Str := ["self", "coefficients", "size"]
theorem sc_Polynomial___init___v2 : FnScope N_Polynomial___init___v2 ["self", "coefficients"] (defScope s_Polynomial___init___v2) := ⟨rfl, rfl, rfl, by decide +kernel, rfl, by decide +kernel, by decide +kernel⟩

abbrev s_Polynomial_power : Stmt := (clsBody (top 10)).getD 1 (.Pass ⟨0, 0, 0, 0⟩)
abbrev N_Polynomial_power : List Str := ["exponent"]
theorem sc_Polynomial_power : FnScope N_Polynomial_power ["exponent"] (defScope s_Polynomial_power) := ⟨rfl, rfl, rfl, by decide +kernel, rfl, by decide +kernel, by decide +kernel⟩

abbrev s_Polynomial_degree : Stmt := (clsBody (top 10)).getD 2 (.Pass ⟨0, 0, 0, 0⟩)
abbrev N_Polynomial_degree : List Str := ["self"]
theorem sc_Polynomial_degree : FnScope N_Polynomial_degree ["self"] (defScope s_Polynomial_degree) := ⟨rfl, rfl, rfl, by decide +kernel, rfl, by decide +kernel, by decide +kernel⟩

abbrev s_Polynomial___eq : Stmt := (clsBody (top 10)).getD 3 (.Pass ⟨0, 0, 0, 0⟩)
abbrev N_Polynomial___eq : List Str := ["self", "other"]
theorem sc_Polynomial___eq : FnScope N_Polynomial___eq ["self", "other"] (defScope s_Polynomial___eq) := ⟨rfl, rfl, rfl, by decide +kernel, rfl, by decide +kernel, by decide +kernel⟩

abbrev s_Polynomial___eq___v2 : Stmt := (clsBody (top 10)).getD 3 (.Pass ⟨0, 0, 0, 0⟩)
abbrev N_Polynomial___eq___v2 : List Str := ["self", "other"]
theorem sc_Polynomial___eq___v2 : FnScope N_Polynomial___eq___v2 ["self", "other"] (defScope s_Polynomial___eq___v2) := ⟨rfl, rfl, rfl, by decide +kernel, rfl, by decide +kernel, by decide +kernel⟩

abbrev s_Polynomial___add : Stmt := (clsBody (top 10)).getD 4 (.Pass ⟨0, 0, 0, 0⟩)
abbrev N_Polynomial___add : List Str := ["self", "other", "size", "total", "at", "coefficient", "_"]
theorem sc_Polynomial___add : FnScope N_Polynomial___add ["self", "other"] (defScope s_Polynomial___add) := ⟨rfl, rfl, rfl, by decide +kernel, rfl, by decide +kernel, by decide +kernel⟩

abbrev s_Polynomial___sub : Stmt := (clsBody (top 10)).getD 5 (.Pass ⟨0, 0, 0, 0⟩)
abbrev N_Polynomial___sub : List Str := ["self", "other", "size", "total", "at", "coefficient", "_"]
theorem sc_Polynomial___sub : FnScope N_Polynomial___sub ["self", "other"] (defScope s_Polynomial___sub) := ⟨rfl, rfl, rfl, by decide +kernel, rfl, by decide +kernel, by decide +kernel⟩

abbrev s_Polynomial___mul : Stmt := (clsBody (top 10)).getD 6 (.Pass ⟨0, 0, 0, 0⟩)
abbrev N_Polynomial___mul : List Str := ["self", "other", "size", "total", "low", "first", "_", "high", "second"]
theorem sc_Polynomial___mul : FnScope N_Polynomial___mul ["self", "other"] (defScope s_Polynomial___mul) := ⟨rfl, rfl, rfl, by decide +kernel, rfl, by decide +kernel, by decide +kernel⟩

abbrev s_Polynomial_value_at : Stmt := (clsBody (top 10)).getD 7 (.Pass ⟨0, 0, 0, 0⟩)
abbrev N_Polynomial_value_at : List Str := ["self", "number", "value", "coefficient"]
theorem sc_Polynomial_value_at : FnScope N_Polynomial_value_at ["self", "number"] (defScope s_Polynomial_value_at) := ⟨rfl, rfl, rfl, by decide +kernel, rfl, by decide +kernel, by decide +kernel⟩

abbrev s_law_mix : Stmt := top 12
abbrev N_law_mix : List Str := ["cell", "k", "one", "two"]
theorem sc_law_mix : FnScope N_law_mix ["cell", "k"] (defScope s_law_mix) := ⟨rfl, rfl, rfl, by decide +kernel, rfl, by decide +kernel, by decide +kernel⟩

abbrev s_law_pool : Stmt := top 13
abbrev N_law_pool : List Str := ["script", "pool", "total", "at", "cell", "left", "k"]
theorem sc_law_pool : FnScope N_law_pool ["script"] (defScope s_law_pool) := ⟨rfl, rfl, rfl, by decide +kernel, rfl, by decide +kernel, by decide +kernel⟩

abbrev s_law_take : Stmt := top 14
abbrev N_law_take : List Str := ["pool", "size"]
theorem sc_law_take : FnScope N_law_take ["pool", "size"] (defScope s_law_take) := ⟨rfl, rfl, rfl, by decide +kernel, rfl, by decide +kernel, by decide +kernel⟩

abbrev s_law_number : Stmt := top 15
abbrev N_law_number : List Str := ["pool", "kind", "number", "k"]
theorem sc_law_number : FnScope N_law_number ["pool"] (defScope s_law_number) := ⟨rfl, rfl, rfl, by decide +kernel, rfl, by decide +kernel, by decide +kernel⟩

abbrev s_law_list : Stmt := top 16
abbrev N_law_list : List Str := ["pool", "row", "k"]
theorem sc_law_list : FnScope N_law_list ["pool"] (defScope s_law_list) := ⟨rfl, rfl, rfl, by decide +kernel, rfl, by decide +kernel, by decide +kernel⟩

abbrev s_law_long : Stmt := top 17
abbrev N_law_long : List Str := ["pool", "size", "one", "two", "row", "k"]
theorem sc_law_long : FnScope N_law_long ["pool", "size"] (defScope s_law_long) := ⟨rfl, rfl, rfl, by decide +kernel, rfl, by decide +kernel, by decide +kernel⟩

abbrev s_law_trimmed : Stmt := top 18
abbrev N_law_trimmed : List Str := ["row", "size", "k"]
theorem sc_law_trimmed : FnScope N_law_trimmed ["row"] (defScope s_law_trimmed) := ⟨rfl, rfl, rfl, by decide +kernel, rfl, by decide +kernel, by decide +kernel⟩

abbrev s_law_plus : Stmt := top 19
abbrev N_law_plus : List Str := ["one", "two", "sign", "size", "left", "right", "k"]
theorem sc_law_plus : FnScope N_law_plus ["one", "two", "sign"] (defScope s_law_plus) := ⟨rfl, rfl, rfl, by decide +kernel, rfl, by decide +kernel, by decide +kernel⟩

abbrev s_law_times : Stmt := top 20
abbrev N_law_times : List Str := ["one", "two", "row", "i", "j", "k"]
theorem sc_law_times : FnScope N_law_times ["one", "two"] (defScope s_law_times) := ⟨rfl, rfl, rfl, by decide +kernel, rfl, by decide +kernel, by decide +kernel⟩

abbrev s_law_value : Stmt := top 21
abbrev N_law_value : List Str := ["row", "number", "total", "power", "one"]
theorem sc_law_value : FnScope N_law_value ["row", "number"] (defScope s_law_value) := ⟨rfl, rfl, rfl, by decide +kernel, rfl, by decide +kernel, by decide +kernel⟩

abbrev s_law_whole : Stmt := top 22
abbrev N_law_whole : List Str := ["told"]
theorem sc_law_whole : FnScope N_law_whole ["told"] (defScope s_law_whole) := ⟨rfl, rfl, rfl, by decide +kernel, rfl, by decide +kernel, by decide +kernel⟩

abbrev s_law_is : Stmt := top 23
abbrev N_law_is : List Str := ["told", "due", "row", "k"]
theorem sc_law_is : FnScope N_law_is ["told", "due"] (defScope s_law_is) := ⟨rfl, rfl, rfl, by decide +kernel, rfl, by decide +kernel, by decide +kernel⟩

abbrev s_law_given_refused : Stmt := top 24
abbrev N_law_given_refused : List Str := ["row", "e"]
theorem sc_law_given_refused : FnScope N_law_given_refused ["row"] (defScope s_law_given_refused) := ⟨rfl, rfl, rfl, by decide +kernel, rfl, by decide +kernel, by decide +kernel⟩

abbrev s_law_product_refused : Stmt := top 25
abbrev N_law_product_refused : List Str := ["one", "two", "e", "told"]
theorem sc_law_product_refused : FnScope N_law_product_refused ["one", "two"] (defScope s_law_product_refused) := ⟨rfl, rfl, rfl, by decide +kernel, rfl, by decide +kernel, by decide +kernel⟩

abbrev s_law_power_refused : Stmt := top 26
abbrev N_law_power_refused : List Str := ["exponent", "e"]
theorem sc_law_power_refused : FnScope N_law_power_refused ["exponent"] (defScope s_law_power_refused) := ⟨rfl, rfl, rfl, by decide +kernel, rfl, by decide +kernel, by decide +kernel⟩

abbrev s_law_value_refused : Stmt := top 27
abbrev N_law_value_refused : List Str := ["told", "number", "e"]
theorem sc_law_value_refused : FnScope N_law_value_refused ["told", "number"] (defScope s_law_value_refused) := ⟨rfl, rfl, rfl, by decide +kernel, rfl, by decide +kernel, by decide +kernel⟩

abbrev s_law_sums : Stmt := top 28
abbrev N_law_sums : List Str := ["one", "left", "two", "right"]
theorem sc_law_sums : FnScope N_law_sums ["one", "left", "two", "right"] (defScope s_law_sums) := ⟨rfl, rfl, rfl, by decide +kernel, rfl, by decide +kernel, by decide +kernel⟩

abbrev s_law_values : Stmt := top 29
abbrev N_law_values : List Str := ["told", "row", "numbers", "number", "value"]
theorem sc_law_values : FnScope N_law_values ["told", "row", "numbers"] (defScope s_law_values) := ⟨rfl, rfl, rfl, by decide +kernel, rfl, by decide +kernel, by decide +kernel⟩

abbrev s_law_unlike : Stmt := top 30
abbrev N_law_unlike : List Str := ["told", "row", "k", "other"]
theorem sc_law_unlike : FnScope N_law_unlike ["told", "row"] (defScope s_law_unlike) := ⟨rfl, rfl, rfl, by decide +kernel, rfl, by decide +kernel, by decide +kernel⟩

abbrev s_law_bounds : Stmt := top 31
abbrev N_law_bounds : List Str := ["pool", "told", "beyond", "number", "drawn", "exponent", "k"]
theorem sc_law_bounds : FnScope N_law_bounds ["pool", "told"] (defScope s_law_bounds) := ⟨rfl, rfl, rfl, by decide +kernel, rfl, by decide +kernel, by decide +kernel⟩

abbrev s_law_limits : Stmt := top 32
abbrev N_law_limits : List Str := ["pool", "size", "left", "right", "more", "one", "two", "due", "three", "full", "k"]
theorem sc_law_limits : FnScope N_law_limits ["pool"] (defScope s_law_limits) := ⟨rfl, rfl, rfl, by decide +kernel, rfl, by decide +kernel, by decide +kernel⟩

abbrev s_law : Stmt := top 33
abbrev N_law : List Str := ["script", "pool", "first", "second", "left", "right", "handed", "one", "two", "k", "none", "numbers"]
theorem sc_law : FnScope N_law ["script"] (defScope s_law) := ⟨rfl, rfl, rfl, by decide +kernel, rfl, by decide +kernel, by decide +kernel⟩
structure Txt (Pg : Program) (w : World) (K : PySem.W.Frag) (mg : Str → Option Value) where
  C_Polynomial : Addr
  gC_Polynomial : mg "Polynomial" = some (.ref C_Polynomial)
  ko_Polynomial : KO K "Polynomial" C_Polynomial
  na_Polynomial_coefficients : NoAttr K C_Polynomial "coefficients"
  oi_Polynomial : OIs K C_Polynomial
  ne_Polynomial : NeC K C_Polynomial
  kit_Polynomial_Polynomial : PySem.W.kitOne K (.ref C_Polynomial) (.ref C_Polynomial) = some true
  kit_tuple_Polynomial : PySem.W.kitOne K (.type "tuple") (.ref C_Polynomial) = some false
  nf_Polynomial_tuple : PySem.W.notFirst K C_Polynomial (.type "tuple") = true
  a_Polynomial___init : Addr
  d_Polynomial___init : FuncData
  F_Polynomial___init : Fun K "__init__" "Polynomial.__init__" s_Polynomial___init a_Polynomial___init d_Polynomial___init
  b_Polynomial___init : Binds K d_Polynomial___init ["self", "coefficients"] []
  mk_Polynomial___init : Mk K C_Polynomial a_Polynomial___init
  a_Polynomial___init___v2 : Addr
  d_Polynomial___init___v2 : FuncData
  F_Polynomial___init___v2 : Fun K "__init__" "Polynomial.__init__" s_Polynomial___init___v2 a_Polynomial___init___v2 d_Polynomial___init___v2
  b_Polynomial___init___v2 : Binds K d_Polynomial___init___v2 ["self", "coefficients"] []
  mk_Polynomial___init___v2 : Mk K C_Polynomial a_Polynomial___init___v2
  a_Polynomial_power : Addr
  d_Polynomial_power : FuncData
  F_Polynomial_power : Fun K "power" "Polynomial.power" s_Polynomial_power a_Polynomial_power d_Polynomial_power
  b_Polynomial_power : Binds K d_Polynomial_power ["exponent"] []
  sm_Polynomial_power : SMet K C_Polynomial "power" a_Polynomial_power
  a_Polynomial_degree : Addr
  d_Polynomial_degree : FuncData
  F_Polynomial_degree : Fun K "degree" "Polynomial.degree" s_Polynomial_degree a_Polynomial_degree d_Polynomial_degree
  b_Polynomial_degree : Binds K d_Polynomial_degree ["self"] []
  p_Polynomial_degree : Addr
  pp_Polynomial_degree : PropOf K C_Polynomial "degree" p_Polynomial_degree a_Polynomial_degree
  a_Polynomial___eq : Addr
  d_Polynomial___eq : FuncData
  F_Polynomial___eq : Fun K "__eq__" "Polynomial.__eq__" s_Polynomial___eq a_Polynomial___eq d_Polynomial___eq
  b_Polynomial___eq : Binds K d_Polynomial___eq ["self", "other"] []
  me_Polynomial___eq : Meth K C_Polynomial "__eq__" a_Polynomial___eq
  bo_Polynomial___eq : BinC K C_Polynomial "__eq__" a_Polynomial___eq
  a_Polynomial___eq___v2 : Addr
  d_Polynomial___eq___v2 : FuncData
  F_Polynomial___eq___v2 : Fun K "__eq__" "Polynomial.__eq__" s_Polynomial___eq___v2 a_Polynomial___eq___v2 d_Polynomial___eq___v2
  b_Polynomial___eq___v2 : Binds K d_Polynomial___eq___v2 ["self", "other"] []
  me_Polynomial___eq___v2 : Meth K C_Polynomial "__eq__" a_Polynomial___eq___v2
  bo_Polynomial___eq___v2 : BinC K C_Polynomial "__eq__" a_Polynomial___eq___v2
  a_Polynomial___add : Addr
  d_Polynomial___add : FuncData
  F_Polynomial___add : Fun K "__add__" "Polynomial.__add__" s_Polynomial___add a_Polynomial___add d_Polynomial___add
  b_Polynomial___add : Binds K d_Polynomial___add ["self", "other"] []
  me_Polynomial___add : Meth K C_Polynomial "__add__" a_Polynomial___add
  bo_Polynomial___add : BinC K C_Polynomial (PySem.dunder (PySem.Operator.info .Add).2) a_Polynomial___add
  a_Polynomial___sub : Addr
  d_Polynomial___sub : FuncData
  F_Polynomial___sub : Fun K "__sub__" "Polynomial.__sub__" s_Polynomial___sub a_Polynomial___sub d_Polynomial___sub
  b_Polynomial___sub : Binds K d_Polynomial___sub ["self", "other"] []
  me_Polynomial___sub : Meth K C_Polynomial "__sub__" a_Polynomial___sub
  bo_Polynomial___sub : BinC K C_Polynomial (PySem.dunder (PySem.Operator.info .Sub).2) a_Polynomial___sub
  a_Polynomial___mul : Addr
  d_Polynomial___mul : FuncData
  F_Polynomial___mul : Fun K "__mul__" "Polynomial.__mul__" s_Polynomial___mul a_Polynomial___mul d_Polynomial___mul
  b_Polynomial___mul : Binds K d_Polynomial___mul ["self", "other"] []
  me_Polynomial___mul : Meth K C_Polynomial "__mul__" a_Polynomial___mul
  bo_Polynomial___mul : BinC K C_Polynomial (PySem.dunder (PySem.Operator.info .Mult).2) a_Polynomial___mul
  a_Polynomial_value_at : Addr
  d_Polynomial_value_at : FuncData
  F_Polynomial_value_at : Fun K "value_at" "Polynomial.value_at" s_Polynomial_value_at a_Polynomial_value_at d_Polynomial_value_at
  b_Polynomial_value_at : Binds K d_Polynomial_value_at ["self", "number"] []
  me_Polynomial_value_at : Meth K C_Polynomial "value_at" a_Polynomial_value_at
  a_check_range : Addr
  d_check_range : FuncData
  F_check_range : Fun K "check_range" "check_range" s_check_range a_check_range d_check_range
  g_check_range : mg "check_range" = some (.ref a_check_range)
  b_check_range : Binds K d_check_range ["value", "low", "high"] []
  a_check_many : Addr
  d_check_many : FuncData
  F_check_many : Fun K "check_many" "check_many" s_check_many a_check_many d_check_many
  g_check_many : mg "check_many" = some (.ref a_check_many)
  b_check_many : Binds K d_check_many ["things", "most"] []
  a_law_mix : Addr
  d_law_mix : FuncData
  F_law_mix : Fun K "_law_mix" "_law_mix" s_law_mix a_law_mix d_law_mix
  g_law_mix : mg "_law_mix" = some (.ref a_law_mix)
  b_law_mix : Binds K d_law_mix ["cell", "k"] []
  a_law_pool : Addr
  d_law_pool : FuncData
  F_law_pool : Fun K "_law_pool" "_law_pool" s_law_pool a_law_pool d_law_pool
  g_law_pool : mg "_law_pool" = some (.ref a_law_pool)
  b_law_pool : Binds K d_law_pool ["script"] []
  a_law_take : Addr
  d_law_take : FuncData
  F_law_take : Fun K "_law_take" "_law_take" s_law_take a_law_take d_law_take
  g_law_take : mg "_law_take" = some (.ref a_law_take)
  b_law_take : Binds K d_law_take ["pool", "size"] []
  a_law_number : Addr
  d_law_number : FuncData
  F_law_number : Fun K "_law_number" "_law_number" s_law_number a_law_number d_law_number
  g_law_number : mg "_law_number" = some (.ref a_law_number)
  b_law_number : Binds K d_law_number ["pool"] []
  a_law_list : Addr
  d_law_list : FuncData
  F_law_list : Fun K "_law_list" "_law_list" s_law_list a_law_list d_law_list
  g_law_list : mg "_law_list" = some (.ref a_law_list)
  b_law_list : Binds K d_law_list ["pool"] []
  a_law_long : Addr
  d_law_long : FuncData
  F_law_long : Fun K "_law_long" "_law_long" s_law_long a_law_long d_law_long
  g_law_long : mg "_law_long" = some (.ref a_law_long)
  b_law_long : Binds K d_law_long ["pool", "size"] []
  a_law_trimmed : Addr
  d_law_trimmed : FuncData
  F_law_trimmed : Fun K "_law_trimmed" "_law_trimmed" s_law_trimmed a_law_trimmed d_law_trimmed
  g_law_trimmed : mg "_law_trimmed" = some (.ref a_law_trimmed)
  b_law_trimmed : Binds K d_law_trimmed ["row"] []
  a_law_plus : Addr
  d_law_plus : FuncData
  F_law_plus : Fun K "_law_plus" "_law_plus" s_law_plus a_law_plus d_law_plus
  g_law_plus : mg "_law_plus" = some (.ref a_law_plus)
  b_law_plus : Binds K d_law_plus ["one", "two", "sign"] []
  a_law_times : Addr
  d_law_times : FuncData
  F_law_times : Fun K "_law_times" "_law_times" s_law_times a_law_times d_law_times
  g_law_times : mg "_law_times" = some (.ref a_law_times)
  b_law_times : Binds K d_law_times ["one", "two"] []
  a_law_value : Addr
  d_law_value : FuncData
  F_law_value : Fun K "_law_value" "_law_value" s_law_value a_law_value d_law_value
  g_law_value : mg "_law_value" = some (.ref a_law_value)
  b_law_value : Binds K d_law_value ["row", "number"] []
  a_law_whole : Addr
  d_law_whole : FuncData
  F_law_whole : Fun K "_law_whole" "_law_whole" s_law_whole a_law_whole d_law_whole
  g_law_whole : mg "_law_whole" = some (.ref a_law_whole)
  b_law_whole : Binds K d_law_whole ["told"] []
  a_law_is : Addr
  d_law_is : FuncData
  F_law_is : Fun K "_law_is" "_law_is" s_law_is a_law_is d_law_is
  g_law_is : mg "_law_is" = some (.ref a_law_is)
  b_law_is : Binds K d_law_is ["told", "due"] []
  a_law_given_refused : Addr
  d_law_given_refused : FuncData
  F_law_given_refused : Fun K "_law_given_refused" "_law_given_refused" s_law_given_refused a_law_given_refused d_law_given_refused
  g_law_given_refused : mg "_law_given_refused" = some (.ref a_law_given_refused)
  b_law_given_refused : Binds K d_law_given_refused ["row"] []
  a_law_product_refused : Addr
  d_law_product_refused : FuncData
  F_law_product_refused : Fun K "_law_product_refused" "_law_product_refused" s_law_product_refused a_law_product_refused d_law_product_refused
  g_law_product_refused : mg "_law_product_refused" = some (.ref a_law_product_refused)
  b_law_product_refused : Binds K d_law_product_refused ["one", "two"] []
  a_law_power_refused : Addr
  d_law_power_refused : FuncData
  F_law_power_refused : Fun K "_law_power_refused" "_law_power_refused" s_law_power_refused a_law_power_refused d_law_power_refused
  g_law_power_refused : mg "_law_power_refused" = some (.ref a_law_power_refused)
  b_law_power_refused : Binds K d_law_power_refused ["exponent"] []
  a_law_value_refused : Addr
  d_law_value_refused : FuncData
  F_law_value_refused : Fun K "_law_value_refused" "_law_value_refused" s_law_value_refused a_law_value_refused d_law_value_refused
  g_law_value_refused : mg "_law_value_refused" = some (.ref a_law_value_refused)
  b_law_value_refused : Binds K d_law_value_refused ["told", "number"] []
  a_law_sums : Addr
  d_law_sums : FuncData
  F_law_sums : Fun K "_law_sums" "_law_sums" s_law_sums a_law_sums d_law_sums
  g_law_sums : mg "_law_sums" = some (.ref a_law_sums)
  b_law_sums : Binds K d_law_sums ["one", "left", "two", "right"] []
  a_law_values : Addr
  d_law_values : FuncData
  F_law_values : Fun K "_law_values" "_law_values" s_law_values a_law_values d_law_values
  g_law_values : mg "_law_values" = some (.ref a_law_values)
  b_law_values : Binds K d_law_values ["told", "row", "numbers"] []
  a_law_unlike : Addr
  d_law_unlike : FuncData
  F_law_unlike : Fun K "_law_unlike" "_law_unlike" s_law_unlike a_law_unlike d_law_unlike
  g_law_unlike : mg "_law_unlike" = some (.ref a_law_unlike)
  b_law_unlike : Binds K d_law_unlike ["told", "row"] []
  a_law_bounds : Addr
  d_law_bounds : FuncData
  F_law_bounds : Fun K "_law_bounds" "_law_bounds" s_law_bounds a_law_bounds d_law_bounds
  g_law_bounds : mg "_law_bounds" = some (.ref a_law_bounds)
  b_law_bounds : Binds K d_law_bounds ["pool", "told"] []
  a_law_limits : Addr
  d_law_limits : FuncData
  F_law_limits : Fun K "_law_limits" "_law_limits" s_law_limits a_law_limits d_law_limits
  g_law_limits : mg "_law_limits" = some (.ref a_law_limits)
  b_law_limits : Binds K d_law_limits ["pool"] []
  a_law : Addr
  d_law : FuncData
  F_law : Fun K "law" "law" s_law a_law d_law
  g_law : mg "law" = some (.ref a_law)
  b_law : Binds K d_law ["script"] []
  z_abs : mg "abs" = none
  z_bool : mg "bool" = none
  z_enumerate : mg "enumerate" = none
  z_int : mg "int" = none
  z_isinstance : mg "isinstance" = none
  z_len : mg "len" = none
  z_list : mg "list" = none
  z_max : mg "max" = none
  z_min : mg "min" = none
  z_range : mg "range" = none
  z_reversed : mg "reversed" = none
  z_tuple : mg "tuple" = none
  tk_LARGEST_NUMBER : Tok
  c_LARGEST_NUMBER : mg "LARGEST_NUMBER" = some (.int 1000 tk_LARGEST_NUMBER)
  tk_MOST_COEFFICIENTS : Tok
  c_MOST_COEFFICIENTS : mg "MOST_COEFFICIENTS" = some (.int 100 tk_MOST_COEFFICIENTS)
  C_OutOfBounds : Addr
  I_OutOfBounds : Addr
  D_OutOfBounds : FuncData
  x_OutOfBounds : ∀ {base : Heap}, ExcN Pg w K mg base "OutOfBounds" "value" C_OutOfBounds I_OutOfBounds D_OutOfBounds
  C_TooMany : Addr
  I_TooMany : Addr
  D_TooMany : FuncData
  x_TooMany : ∀ {base : Heap}, ExcN Pg w K mg base "TooMany" "most" C_TooMany I_TooMany D_TooMany
  gC_OutOfBounds : mg "OutOfBounds" = some (.ref C_OutOfBounds)
  gC_TooMany : mg "TooMany" = some (.ref C_TooMany)
  C_WordError : Addr
  gC_WordError : mg "WordError" = some (.ref C_WordError)
  q_OutOfBounds_OutOfBounds : PySem.W.kitOne K (.ref C_OutOfBounds) (.ref C_OutOfBounds) = some true
  q_TooMany_OutOfBounds : PySem.W.kitOne K (.ref C_TooMany) (.ref C_OutOfBounds) = some false
  q_OutOfBounds_TooMany : PySem.W.kitOne K (.ref C_OutOfBounds) (.ref C_TooMany) = some false
  q_TooMany_TooMany : PySem.W.kitOne K (.ref C_TooMany) (.ref C_TooMany) = some true
  q_OutOfBounds_WordError : PySem.W.kitOne K (.ref C_OutOfBounds) (.ref C_WordError) = some true
  q_TooMany_WordError : PySem.W.kitOne K (.ref C_TooMany) (.ref C_WordError) = some true
  v_OutOfBounds_OutOfBounds : PySem.W.exmOne K (.ref C_OutOfBounds) (.ref C_OutOfBounds) = some true
  v_TooMany_OutOfBounds : PySem.W.exmOne K (.ref C_TooMany) (.ref C_OutOfBounds) = some false
  v_OutOfBounds_TooMany : PySem.W.exmOne K (.ref C_OutOfBounds) (.ref C_TooMany) = some false
  v_TooMany_TooMany : PySem.W.exmOne K (.ref C_TooMany) (.ref C_TooMany) = some true
  v_OutOfBounds_WordError : PySem.W.exmOne K (.ref C_OutOfBounds) (.ref C_WordError) = some true
  v_TooMany_WordError : PySem.W.exmOne K (.ref C_TooMany) (.ref C_WordError) = some true
section
variable {Pg : Program} {w : World} {K : PySem.W.Frag} {mg : Str → Option Value} {base : Heap}
theorem is_OutOfBounds_ok (T : Txt Pg w K mg) {e : Exn} {cls : Value} (h : mg e.cls = some cls) : IsOk K cls (.ref T.C_OutOfBounds) (is_OutOfBounds e) := by
  unfold is_OutOfBounds
  by_cases h_OutOfBounds : e.cls = "OutOfBounds"
  · rw [h_OutOfBounds, (T.x_OutOfBounds (base := {})).gC] at h
    rw [if_pos h_OutOfBounds]
    exact .inr ⟨_, _, (Option.some.inj h).symm, (T.x_OutOfBounds (base := {})).ec, T.q_OutOfBounds_OutOfBounds, rfl⟩
  rw [if_neg h_OutOfBounds]
  by_cases h_TooMany : e.cls = "TooMany"
  · rw [h_TooMany, (T.x_TooMany (base := {})).gC] at h
    rw [if_pos h_TooMany]
    exact .inr ⟨_, _, (Option.some.inj h).symm, (T.x_TooMany (base := {})).ec, T.q_TooMany_OutOfBounds, rfl⟩
  rw [if_neg h_TooMany]
  exact .inl rfl
theorem is_TooMany_ok (T : Txt Pg w K mg) {e : Exn} {cls : Value} (h : mg e.cls = some cls) : IsOk K cls (.ref T.C_TooMany) (is_TooMany e) := by
  unfold is_TooMany
  by_cases h_OutOfBounds : e.cls = "OutOfBounds"
  · rw [h_OutOfBounds, (T.x_OutOfBounds (base := {})).gC] at h
    rw [if_pos h_OutOfBounds]
    exact .inr ⟨_, _, (Option.some.inj h).symm, (T.x_OutOfBounds (base := {})).ec, T.q_OutOfBounds_TooMany, rfl⟩
  rw [if_neg h_OutOfBounds]
  by_cases h_TooMany : e.cls = "TooMany"
  · rw [h_TooMany, (T.x_TooMany (base := {})).gC] at h
    rw [if_pos h_TooMany]
    exact .inr ⟨_, _, (Option.some.inj h).symm, (T.x_TooMany (base := {})).ec, T.q_TooMany_TooMany, rfl⟩
  rw [if_neg h_TooMany]
  exact .inl rfl
theorem is_WordError_ok (T : Txt Pg w K mg) {e : Exn} {cls : Value} (h : mg e.cls = some cls) : IsOk K cls (.ref T.C_WordError) (is_WordError e) := by
  unfold is_WordError
  by_cases h_OutOfBounds : e.cls = "OutOfBounds"
  · rw [h_OutOfBounds, (T.x_OutOfBounds (base := {})).gC] at h
    rw [if_pos h_OutOfBounds]
    exact .inr ⟨_, _, (Option.some.inj h).symm, (T.x_OutOfBounds (base := {})).ec, T.q_OutOfBounds_WordError, rfl⟩
  rw [if_neg h_OutOfBounds]
  by_cases h_TooMany : e.cls = "TooMany"
  · rw [h_TooMany, (T.x_TooMany (base := {})).gC] at h
    rw [if_pos h_TooMany]
    exact .inr ⟨_, _, (Option.some.inj h).symm, (T.x_TooMany (base := {})).ec, T.q_TooMany_WordError, rfl⟩
  rw [if_neg h_TooMany]
  exact .inl rfl
theorem hx_OutOfBounds (T : Txt Pg w K mg) {ω : Type} {P : ω → Prop} {X : Exn → Prop} {e : Exn} {m : Bool → Res ω} (h : wp ((is_OutOfBounds e).bind m) P X) : ∃ b, (∀ cls, mg e.cls = some cls → PySem.W.exmOne K cls (.ref T.C_OutOfBounds) = some b) ∧ wp (m b) P X := by
  unfold is_OutOfBounds at h
  by_cases h_OutOfBounds : e.cls = "OutOfBounds"
  · rw [if_pos h_OutOfBounds] at h
    refine ⟨_, fun cls hm => ?_, h⟩
    rw [h_OutOfBounds, (T.x_OutOfBounds (base := {})).gC] at hm
    rw [← Option.some.inj hm]
    exact T.v_OutOfBounds_OutOfBounds
  rw [if_neg h_OutOfBounds] at h
  by_cases h_TooMany : e.cls = "TooMany"
  · rw [if_pos h_TooMany] at h
    refine ⟨_, fun cls hm => ?_, h⟩
    rw [h_TooMany, (T.x_TooMany (base := {})).gC] at hm
    rw [← Option.some.inj hm]
    exact T.v_TooMany_OutOfBounds
  rw [if_neg h_TooMany] at h
  exact h.elim
theorem hx_TooMany (T : Txt Pg w K mg) {ω : Type} {P : ω → Prop} {X : Exn → Prop} {e : Exn} {m : Bool → Res ω} (h : wp ((is_TooMany e).bind m) P X) : ∃ b, (∀ cls, mg e.cls = some cls → PySem.W.exmOne K cls (.ref T.C_TooMany) = some b) ∧ wp (m b) P X := by
  unfold is_TooMany at h
  by_cases h_OutOfBounds : e.cls = "OutOfBounds"
  · rw [if_pos h_OutOfBounds] at h
    refine ⟨_, fun cls hm => ?_, h⟩
    rw [h_OutOfBounds, (T.x_OutOfBounds (base := {})).gC] at hm
    rw [← Option.some.inj hm]
    exact T.v_OutOfBounds_TooMany
  rw [if_neg h_OutOfBounds] at h
  by_cases h_TooMany : e.cls = "TooMany"
  · rw [if_pos h_TooMany] at h
    refine ⟨_, fun cls hm => ?_, h⟩
    rw [h_TooMany, (T.x_TooMany (base := {})).gC] at hm
    rw [← Option.some.inj hm]
    exact T.v_TooMany_TooMany
  rw [if_neg h_TooMany] at h
  exact h.elim
theorem hx_WordError (T : Txt Pg w K mg) {ω : Type} {P : ω → Prop} {X : Exn → Prop} {e : Exn} {m : Bool → Res ω} (h : wp ((is_WordError e).bind m) P X) : ∃ b, (∀ cls, mg e.cls = some cls → PySem.W.exmOne K cls (.ref T.C_WordError) = some b) ∧ wp (m b) P X := by
  unfold is_WordError at h
  by_cases h_OutOfBounds : e.cls = "OutOfBounds"
  · rw [if_pos h_OutOfBounds] at h
    refine ⟨_, fun cls hm => ?_, h⟩
    rw [h_OutOfBounds, (T.x_OutOfBounds (base := {})).gC] at hm
    rw [← Option.some.inj hm]
    exact T.v_OutOfBounds_WordError
  rw [if_neg h_OutOfBounds] at h
  by_cases h_TooMany : e.cls = "TooMany"
  · rw [if_pos h_TooMany] at h
    refine ⟨_, fun cls hm => ?_, h⟩
    rw [h_TooMany, (T.x_TooMany (base := {})).gC] at hm
    rw [← Option.some.inj hm]
    exact T.v_TooMany_WordError
  rw [if_neg h_TooMany] at h
  exact h.elim
theorem ok_check_range (T : Txt Pg w K mg) : FnOk Pg w K mg base (L2N.CX Pg w) 3 T.a_check_range T.d_check_range ["value", "low", "high"] (SpM K mg 3 (fun (a : Int × Int × Int) => [.im a.1, .im a.2.1, .im a.2.2]) (fun a => m_check_range a.1 a.2.1 a.2.2) (fun b => .im b)) := by
  refine okN T.F_check_range sc_check_range (fun vs H Q E h => h.1) fun cdv A outer s H vs Q E hr h => ?_
  obtain ⟨hl, ⟨value, low, high⟩, I, ρ, Θ, hE, h⟩ := h
  have hE : Env K I H (start N_check_range vs) [.im (value : Int), .im (low : Int), .im (high : Int)] ρ Θ := st_start hE (by rw [hl]; first | rfl | done)
  refine ⟨_, (pss_one (ps_if (PW.pt (pw_or (pt_cmpR op_lt (pv 0) (pv 1) (nomark _)) (pw_or1 (pt_cmpR op_gt (pv 0) (pv 2) (nomark _))))) (pss_one (L2N.ps_raise rfl (L2N.takes_of rfl rfl rfl rfl) (pmk_oexN (x := "OutOfBounds") (T.x_OutOfBounds (base := base)).T (T.x_OutOfBounds (base := base)).iC (T.x_OutOfBounds (base := base)).tI (T.x_OutOfBounds (base := base)).ini (hr.mono (by decide)) (T.x_OutOfBounds (base := base)).bI passN (by rfl) (T.x_OutOfBounds (base := base)).gC (pa_cons (pv 0) pa_nil)))) pss_nil)), ?_⟩
  generalize start N_check_range vs = σ at hE ⊢
  change wp (m_check_range value low high) _ _ at h
  unfold m_check_range at h
  refine st_if hE (ht_or_pp (ht_tt (hf_pp hr_lt (hf_var rfl) (hf_var rfl))) (ht_tt (hf_pp hr_gt (hf_var rfl) (hf_var rfl)))) h (fun h => ?_) (fun h => ?_)
  ·
    exact st_raise (W := fun cls d _ H' => E cls d H') hE (hf_var rfl) (T.x_OutOfBounds (base := base)).gC (fun I' H' cls d hm z => h I' H' cls d hm z.clear)
  ·
    refine uNext ?_
    exact st_retN hE h

theorem ok_check_many (T : Txt Pg w K mg) : FnOk Pg w K mg base (L2N.CX Pg w) 3 T.a_check_many T.d_check_many ["things", "most"] (SpM K mg 2 (fun (a : (SeqL Int) × Int) => [.im a.1, .im a.2]) (fun a => m_check_many a.1 a.2) (fun b => .im b)) := by
  refine okN T.F_check_many sc_check_many (fun vs H Q E h => h.1) fun cdv A outer s H vs Q E hr h => ?_
  obtain ⟨hl, ⟨things, most⟩, I, ρ, Θ, hE, h⟩ := h
  have hE : Env K I H (start N_check_many vs) [.im (things : (SeqL Int)), .im (most : Int)] ρ Θ := st_start hE (by rw [hl]; first | rfl | done)
  refine ⟨_, (pss_one (ps_if (pt_cmpR op_gt (pe_callB call_len_seq (by rfl) T.z_len PySem.boot_len (pa_cons (pv 0) pa_nil)) (pv 1) (nomark _)) (pss_one (L2N.ps_raise rfl (L2N.takes_of rfl rfl rfl rfl) (pmk_oexN (x := "TooMany") (T.x_TooMany (base := base)).T (T.x_TooMany (base := base)).iC (T.x_TooMany (base := base)).tI (T.x_TooMany (base := base)).ini (hr.mono (by decide)) (T.x_TooMany (base := base)).bI passN (by rfl) (T.x_TooMany (base := base)).gC (pa_cons (pv 1) pa_nil)))) pss_nil)), ?_⟩
  generalize start N_check_many vs = σ at hE ⊢
  change wp (m_check_many things most) _ _ at h
  unfold m_check_many at h
  refine st_if hE (ht_tt (hf_pp hr_gt (hf_lenS (hΓ := rfl)) (hf_var rfl))) h (fun h => ?_) (fun h => ?_)
  ·
    exact st_raise (W := fun cls d _ H' => E cls d H') hE (hf_var rfl) (T.x_TooMany (base := base)).gC (fun I' H' cls d hm z => h I' H' cls d hm z.clear)
  ·
    refine uNext ?_
    exact st_retN hE h

theorem ok_Polynomial___init (T : Txt Pg w K mg) : FnOk Pg w K mg base (L2N.CX Pg w) 4 T.a_Polynomial___init T.d_Polynomial___init ["self", "coefficients"] (SpI K mg "Polynomial" ["coefficients"] 1 (fun (a : (List Int)) => [.im a]) (fun a => m_Polynomial___init a)) := by
  refine okN T.F_Polynomial___init sc_Polynomial___init (fun vs H Q E h => h.1) fun cdv A outer s H vs Q E hr h => ?_
  obtain ⟨hl, coefficients, I, ρ, Θ, hE, h⟩ := h
  obtain ⟨v0, vs, rfl⟩ : ∃ v0 vs1, vs = v0 :: vs1 := by cases vs with | nil => simp at hl | cons v0 vs => exact ⟨v0, vs, rfl⟩
  have hE : Env K I H (start N_Polynomial___init (v0 :: vs)) [.own ((Obw.mk ()) : (Obw "Polynomial" [] (Unit))) (some v0), .im (coefficients : (List Int)), .any] ρ Θ := st_start hE (by rw [hl]; first | rfl | done)
  refine ⟨_, (pss_cons (ps_expr (pe_callS (ok_check_many (base := base) T) (hr.mono (by decide)) (by rfl) T.g_check_many T.F_check_many.kp T.b_check_many (fun σ => L2N.passAt (L2N.takes_of rfl rfl rfl rfl) σ) (pa_cons (pv 1) (pa_cons (pe_glob (v := .int 100) (by rfl) T.c_MOST_COEFFICIENTS ⟨_, rfl⟩) pa_nil))))
      (pss_cons (ps_set (i := 2) sc_Polynomial___init.nd rfl (.inl rfl) (pe_callB call_len_seq (by rfl) T.z_len PySem.boot_len (pa_cons (pv 1) pa_nil)))
      (pss_cons (ps_while (passes_of rfl) (PW.pt (pw_and (pt_cmpR op_gt (pv 2) pe_int (nomark _)) (pw_and1 (pt_cmpR op_eq (pe_ix ix_list (pv 1) (pe_op op_sub (pv 2) pe_int) (fun _ _ => rfl)) pe_int (nomark _))))) (pss_one (ps_set (i := 2) sc_Polynomial___init.nd rfl (.inl rfl) (pe_op op_sub (pv 2) pe_int))))
      (pss_one (ps_fld (pv 0) (pe_callTy call_tuple_of (by rfl) T.z_tuple (by decide +kernel) (pa_cons (pe_slice sl_list (pv 1) po_none (po_some (pv 2))) pa_nil)) rfl))))), ?_⟩
  generalize start N_Polynomial___init (v0 :: vs) = σ at hE ⊢
  change wp (m_Polynomial___init coefficients) _ _ at h
  unfold m_Polynomial___init at h
  refine uSeq (uDrop (uCallS (uCons ?_)))
  refine st_var hE (i := 1) rfl fun v hE => ?_
  replace hE := hE.listSeq
  refine uCons ?_
  refine st_push hE (hf_c (a := (100 : Int)) rfl trivial) fun hE => ?_
  refine uNil ?_
  refine st_call ((SeqL.mk coefficients), (100 : Int)) hE rfl rfl h (fun e x I' H' cls d hm z => x _ H' cls d hm z.clear) fun t1 I H v hE h => ?_
  have hE := hE.pop
  refine uSeq ?_
  refine st_setm (Γ' := fun (size : Int) => [.own ((Obw.mk ()) : (Obw "Polynomial" [] (Unit))) (some v0), .im (coefficients : (List Int)), .im (size : Int)]) hE (hf_lenL (hΓ := rfl)) h (fun _ => rfl) (by decide : (2 : Nat) < 3) fun size σ hE h => ?_
  refine uSeq ?_
  refine st_while (fun _ => False) (fun (size : Int) => [.own ((Obw.mk ()) : (Obw "Polynomial" [] (Unit))) (some v0), .im (coefficients : (List Int)), .im (size : Int)]) hE ⟨.inr rfl, .inr rfl, .inr rfl, trivial⟩ h (fun r h => h) (fun s I H σ Qt hE h => ?_) (fun s I H σ N B hE h => ?_) (fun s I H σ hE h => ?_)
  ·
    revert hE h; revert s; intro size hE h
    refine st_htm hE (ht_and_pm (ht_tt (hf_pp hr_gt (hf_var rfl) (hf_c (a := (0 : Int)) rfl trivial))) (ht_tt (hf_mp (fun _ => hr_eqI) (hf_ixLp rfl (hf_pp hr_sub (hf_var rfl) (hf_c (a := (1 : Int)) rfl trivial))) (hf_c (a := (0 : Int)) rfl trivial)))) h fun b3 h => ?_
    exact h _ _ hE
  ·
    revert hE h; revert s; intro size hE h
    refine st_setm (Γ' := fun (size : Int) => [.own ((Obw.mk ()) : (Obw "Polynomial" [] (Unit))) (some v0), .im (coefficients : (List Int)), .im (size : Int)]) hE (hf_pp hr_sub (hf_var rfl) (hf_c (a := (1 : Int)) rfl trivial)) h (fun _ => rfl) (by decide : (2 : Nat) < 3) fun size σ hE h => ?_
    exact h _ _ _ (hE.weak (Γ' := [.own ((Obw.mk ()) : (Obw "Polynomial" [] (Unit))) (some v0), .im (coefficients : (List Int)), .im (size : Int)]) ⟨.inr rfl, .inr rfl, .inr rfl, trivial⟩)
  revert hE h; revert s; intro size hE h
  refine uSFld (uCB (uCons (uSl ?_)))
  refine st_var hE (i := 1) rfl fun v hE => ?_
  refine st_bdp hE ho_none ?_
  refine st_bdp hE (ho_p (hf_var rfl)) ?_
  refine st_slL hE fun I H v hE => ?_
  refine uNil ?_
  refine st_tupleOf hE fun I H v hE => ?_
  refine st_name hE h fun q4 hE h => ?_
  refine st_sfldN (y := ((q4, ()) : (TupL Int) × Unit)) hE rfl T.ko_Polynomial T.na_Polynomial_coefficients (by decide) (by decide) (fun r ra => fa0 r ra) fun H hE => ?_
  replace hE : Env K _ _ _ [.own ((Obw.mk (q4, ())) : (Obw "Polynomial" ["coefficients"] ((TupL Int) × Unit))) (some v0), .im (coefficients : (List Int)), .im (size : Int)] _ _ := hE
  exact h _ _ _ ((hE.pushS (α := Unit) (a := ()) trivial).only0)

theorem ok_Polynomial___init___v2 (T : Txt Pg w K mg) : FnOk Pg w K mg base (L2N.CX Pg w) 4 T.a_Polynomial___init___v2 T.d_Polynomial___init___v2 ["self", "coefficients"] (SpI K mg "Polynomial" ["coefficients"] 1 (fun (a : (TupL Int)) => [.im a]) (fun a => m_Polynomial___init___v2 a)) := by
  refine okN T.F_Polynomial___init___v2 sc_Polynomial___init___v2 (fun vs H Q E h => h.1) fun cdv A outer s H vs Q E hr h => ?_
  obtain ⟨hl, coefficients, I, ρ, Θ, hE, h⟩ := h
  obtain ⟨v0, vs, rfl⟩ : ∃ v0 vs1, vs = v0 :: vs1 := by cases vs with | nil => simp at hl | cons v0 vs => exact ⟨v0, vs, rfl⟩
  have hE : Env K I H (start N_Polynomial___init___v2 (v0 :: vs)) [.own ((Obw.mk ()) : (Obw "Polynomial" [] (Unit))) (some v0), .im (coefficients : (TupL Int)), .any] ρ Θ := st_start hE (by rw [hl]; first | rfl | done)
  refine ⟨_, (pss_cons (ps_expr (pe_callS (ok_check_many (base := base) T) (hr.mono (by decide)) (by rfl) T.g_check_many T.F_check_many.kp T.b_check_many (fun σ => L2N.passAt (L2N.takes_of rfl rfl rfl rfl) σ) (pa_cons (pv 1) (pa_cons (pe_glob (v := .int 100) (by rfl) T.c_MOST_COEFFICIENTS ⟨_, rfl⟩) pa_nil))))
      (pss_cons (ps_set (i := 2) sc_Polynomial___init___v2.nd rfl (.inl rfl) (pe_callB call_len_seq (by rfl) T.z_len PySem.boot_len (pa_cons (pv 1) pa_nil)))
      (pss_cons (ps_while (passes_of rfl) (PW.pt (pw_and (pt_cmpR op_gt (pv 2) pe_int (nomark _)) (pw_and1 (pt_cmpR op_eq (pe_ix ix_tup (pv 1) (pe_op op_sub (pv 2) pe_int) (fun _ _ => rfl)) pe_int (nomark _))))) (pss_one (ps_set (i := 2) sc_Polynomial___init___v2.nd rfl (.inl rfl) (pe_op op_sub (pv 2) pe_int))))
      (pss_one (ps_fld (pv 0) (pe_callTy call_tuple_of (by rfl) T.z_tuple (by decide +kernel) (pa_cons (pe_slice sl_tupA (pv 1) po_none (po_some (pv 2))) pa_nil)) rfl))))), ?_⟩
  generalize start N_Polynomial___init___v2 (v0 :: vs) = σ at hE ⊢
  change wp (m_Polynomial___init___v2 coefficients) _ _ at h
  unfold m_Polynomial___init___v2 at h
  refine uSeq (uDrop (uCallS (uCons ?_)))
  refine st_var hE (i := 1) rfl fun v hE => ?_
  replace hE := hE.tupSeq
  refine uCons ?_
  refine st_push hE (hf_c (a := (100 : Int)) rfl trivial) fun hE => ?_
  refine uNil ?_
  refine st_call ((SeqL.mk coefficients.l), (100 : Int)) hE rfl rfl h (fun e x I' H' cls d hm z => x _ H' cls d hm z.clear) fun t1 I H v hE h => ?_
  have hE := hE.pop
  refine uSeq ?_
  refine st_setm (Γ' := fun (size : Int) => [.own ((Obw.mk ()) : (Obw "Polynomial" [] (Unit))) (some v0), .im (coefficients : (TupL Int)), .im (size : Int)]) hE (hf_lenT (hΓ := rfl)) h (fun _ => rfl) (by decide : (2 : Nat) < 3) fun size σ hE h => ?_
  refine uSeq ?_
  refine st_while (fun _ => False) (fun (size : Int) => [.own ((Obw.mk ()) : (Obw "Polynomial" [] (Unit))) (some v0), .im (coefficients : (TupL Int)), .im (size : Int)]) hE ⟨.inr rfl, .inr rfl, .inr rfl, trivial⟩ h (fun r h => h) (fun s I H σ Qt hE h => ?_) (fun s I H σ N B hE h => ?_) (fun s I H σ hE h => ?_)
  ·
    revert hE h; revert s; intro size hE h
    refine st_htm hE (ht_and_pm (ht_tt (hf_pp hr_gt (hf_var rfl) (hf_c (a := (0 : Int)) rfl trivial))) (ht_tt (hf_mp (fun _ => hr_eqI) (hf_ixTp rfl (hf_pp hr_sub (hf_var rfl) (hf_c (a := (1 : Int)) rfl trivial))) (hf_c (a := (0 : Int)) rfl trivial)))) h fun b3 h => ?_
    exact h _ _ hE
  ·
    revert hE h; revert s; intro size hE h
    refine st_setm (Γ' := fun (size : Int) => [.own ((Obw.mk ()) : (Obw "Polynomial" [] (Unit))) (some v0), .im (coefficients : (TupL Int)), .im (size : Int)]) hE (hf_pp hr_sub (hf_var rfl) (hf_c (a := (1 : Int)) rfl trivial)) h (fun _ => rfl) (by decide : (2 : Nat) < 3) fun size σ hE h => ?_
    exact h _ _ _ (hE.weak (Γ' := [.own ((Obw.mk ()) : (Obw "Polynomial" [] (Unit))) (some v0), .im (coefficients : (TupL Int)), .im (size : Int)]) ⟨.inr rfl, .inr rfl, .inr rfl, trivial⟩)
  revert hE h; revert s; intro size hE h
  refine uSFld (uCB (uCons (uSl ?_)))
  refine st_var hE (i := 1) rfl fun v hE => ?_
  refine st_bdp hE ho_none ?_
  refine st_bdp hE (ho_p (hf_var rfl)) ?_
  refine st_slTA hE fun I H v hE => ?_
  refine uNil ?_
  refine st_tupleOfT hE fun v hE => ?_
  refine st_name hE h fun q4 hE h => ?_
  refine st_sfldN (y := ((q4, ()) : (TupL Int) × Unit)) hE rfl T.ko_Polynomial T.na_Polynomial_coefficients (by decide) (by decide) (fun r ra => fa0 r ra) fun H hE => ?_
  replace hE : Env K _ _ _ [.own ((Obw.mk (q4, ())) : (Obw "Polynomial" ["coefficients"] ((TupL Int) × Unit))) (some v0), .im (coefficients : (TupL Int)), .im (size : Int)] _ _ := hE
  exact h _ _ _ ((hE.pushS (α := Unit) (a := ()) trivial).only0)

theorem ok_Polynomial_power (T : Txt Pg w K mg) : FnOk Pg w K mg base (L2N.CX Pg w) 6 T.a_Polynomial_power T.d_Polynomial_power ["exponent"] (SpM K mg 1 (fun (a : Int) => [.im a]) (fun a => m_Polynomial_power a) (fun b => .im b)) := by
  refine okN T.F_Polynomial_power sc_Polynomial_power (fun vs H Q E h => h.1) fun cdv A outer s H vs Q E hr h => ?_
  obtain ⟨hl, exponent, I, ρ, Θ, hE, h⟩ := h
  have hE : Env K I H (start N_Polynomial_power vs) [.im (exponent : Int)] ρ Θ := st_start hE (by rw [hl]; first | rfl | done)
  refine ⟨_, (pss_cons (ps_expr (pe_callS (ok_check_range (base := base) T) (hr.mono (by decide)) (by rfl) T.g_check_range T.F_check_range.kp T.b_check_range (fun σ => L2N.passAt (L2N.takes_of rfl rfl rfl rfl) σ) (pa_cons (pv 0) (pa_cons pe_int (pa_cons (pe_op op_sub (pe_glob (v := .int 100) (by rfl) T.c_MOST_COEFFICIENTS ⟨_, rfl⟩) pe_int) pa_nil)))))
      (pss_one (ps_ret (pe_makeS T.mk_Polynomial___init (ok_Polynomial___init (base := base) T) (hr.mono (by decide)) (by rfl) T.gC_Polynomial T.b_Polynomial___init (fun σ => L2N.passAt (L2N.takes_of rfl rfl rfl rfl) σ) (pa_cons (pe_op op_cat (pe_op op_rep (pe_lst (pa_cons pe_int pa_nil)) (pv 0)) (pe_lst (pa_cons pe_int pa_nil))) pa_nil))))), ?_⟩
  generalize start N_Polynomial_power vs = σ at hE ⊢
  change wp (m_Polynomial_power exponent) _ _ at h
  unfold m_Polynomial_power at h
  refine uSeq (uDrop (uCallS (uCons ?_)))
  refine st_push hE (hf_var rfl) fun hE => ?_
  refine uCons ?_
  refine st_push hE (hf_c (a := (0 : Int)) rfl trivial) fun hE => ?_
  refine uCons ?_
  refine st_push hE (hf_pp hr_sub (hf_c (a := (100 : Int)) rfl trivial) (hf_c (a := (1 : Int)) rfl trivial)) fun hE => ?_
  refine uNil ?_
  refine st_call (exponent, (0 : Int), ((100 : Int) - (1 : Int))) hE rfl rfl h (fun e x I' H' cls d hm z => x _ H' cls d hm z.clear) fun t1 I H v hE h => ?_
  have hE := hE.pop
  refine uRet (uMakeS (uCons (uOp (uOp (uLst (uCons ?_))))))
  refine st_push hE (hf_c (a := (0 : Int)) rfl trivial) fun hE => ?_
  refine uNil ?_
  refine st_lstI (α := Int) _ [(0 : Int)] rfl (by decide : (1 : Nat) ≤ line) hE fun I H v hE => ?_
  refine st_push hE (hf_var rfl) fun hE => ?_
  refine st_repI hE h fun t2 I H v hE h => ?_
  refine uLst (uCons ?_)
  refine st_push hE (hf_c (a := (1 : Int)) rfl trivial) fun hE => ?_
  refine uNil ?_
  refine st_lstI (α := Int) _ [(1 : Int)] rfl (by decide : (1 : Nat) ≤ line) hE fun I H v hE => ?_
  refine st_catI hE h fun t3 I H v hE h => ?_
  refine uNil ?_
  refine st_make t3 hE rfl rfl T.ko_Polynomial.at_ h (fun e x I' H' cls d hm z => x _ H' cls d hm z.clear) fun t4 I H v hE h => ?_
  exact h _ _ _ hE.clear

theorem ok_Polynomial_degree (T : Txt Pg w K mg) : FnOk Pg w K mg base (L2N.CX Pg w) 1 T.a_Polynomial_degree T.d_Polynomial_degree ["self"] (SpM K mg 1 (fun (a : O_Polynomial) => [.im a]) (fun a => m_Polynomial_degree a) (fun b => .im b)) := by
  refine okN T.F_Polynomial_degree sc_Polynomial_degree (fun vs H Q E h => h.1) fun cdv A outer s H vs Q E hr h => ?_
  obtain ⟨hl, self, I, ρ, Θ, hE, h⟩ := h
  have hE : Env K I H (start N_Polynomial_degree vs) [.im (self : O_Polynomial)] ρ Θ := st_start hE (by rw [hl]; first | rfl | done)
  refine ⟨_, (pss_one (ps_ret (pe_op op_sub (pe_callB call_len_seq (by rfl) T.z_len PySem.boot_len (pa_cons (pe_fld (pv 0) rfl) pa_nil)) pe_int))), ?_⟩
  generalize start N_Polynomial_degree vs = σ at hE ⊢
  change wp (m_Polynomial_degree self) _ _ at h
  unfold m_Polynomial_degree at h
  exact st_ret hE (hf_pp hr_sub (hf_lenHT (hv_fld (hv_var rfl) T.ko_Polynomial T.na_Polynomial_coefficients rfl rfl (fun r => fl0 r))) (hf_c (a := (1 : Int)) rfl trivial)) h

theorem ok_Polynomial___eq (T : Txt Pg w K mg) : FnOk Pg w K mg base (L2N.CX Pg w) 1 T.a_Polynomial___eq T.d_Polynomial___eq ["self", "other"] (SpM K mg 2 (fun (a : O_Polynomial × O_Polynomial) => [.im a.1, .im a.2]) (fun a => m_Polynomial___eq a.1 a.2) (fun b => .im b)) := by
  refine okN T.F_Polynomial___eq sc_Polynomial___eq (fun vs H Q E h => h.1) fun cdv A outer s H vs Q E hr h => ?_
  obtain ⟨hl, ⟨self, other⟩, I, ρ, Θ, hE, h⟩ := h
  have hE : Env K I H (start N_Polynomial___eq vs) [.im (self : O_Polynomial), .im (other : O_Polynomial)] ρ Θ := st_start hE (by rw [hl]; first | rfl | done)
  refine ⟨_, (pss_one (ps_ret (pe_and (pe_callB call_isi (by rfl) T.z_isinstance (by decide +kernel) (pa_cons (pv 1) (pa_cons (pe_glob (v := .ref T.C_Polynomial) (by rfl) T.gC_Polynomial rfl) pa_nil))) (pe_one (pe_cmpR (op_eqD hr.units) (pe_fld (pv 0) rfl) (pe_fld (pv 1) rfl) (nomark _)))))), ?_⟩
  generalize start N_Polynomial___eq vs = σ at hE ⊢
  change wp (m_Polynomial___eq self other) _ _ at h
  unfold m_Polynomial___eq at h
  refine uRet (uAndV ?_)
  refine st_push hE (hf_isOb (hΓ := rfl) T.ko_Polynomial T.oi_Polynomial (.own _) T.kit_Polynomial_Polynomial) fun hE => ?_
  refine st_vb hE fun hE => ?_
  refine st_ite h (fun h => ?_) (fun h => ?_)
  ·
    refine uOp (uFld ?_)
    refine st_var hE (i := 0) rfl fun v hE => ?_
    refine st_fld hE T.ko_Polynomial T.na_Polynomial_coefficients rfl rfl (fun r => fl0 r) fun v hE => ?_
    refine uFld ?_
    refine st_var hE (i := 1) rfl fun v hE => ?_
    refine st_fld hE T.ko_Polynomial T.na_Polynomial_coefficients rfl rfl (fun r => fl0 r) fun v hE => ?_
    refine st_eqD hE (by decide) h fun t1 v hE h => ?_
    exact h _ _ _ hE.clear
  ·
    exact h _ _ _ (hE.pushS (α := Bool) (a := false) trivial).clear

theorem ok_Polynomial___eq___v2 (T : Txt Pg w K mg) : FnOk Pg w K mg base (L2N.CX Pg w) 1 T.a_Polynomial___eq___v2 T.d_Polynomial___eq___v2 ["self", "other"] (SpM K mg 2 (fun (a : O_Polynomial × (TupL Int)) => [.im a.1, .im a.2]) (fun a => m_Polynomial___eq___v2 a.1 a.2) (fun b => .im b)) := by
  refine okN T.F_Polynomial___eq___v2 sc_Polynomial___eq___v2 (fun vs H Q E h => h.1) fun cdv A outer s H vs Q E hr h => ?_
  obtain ⟨hl, ⟨self, other⟩, I, ρ, Θ, hE, h⟩ := h
  have hE : Env K I H (start N_Polynomial___eq___v2 vs) [.im (self : O_Polynomial), .im (other : (TupL Int))] ρ Θ := st_start hE (by rw [hl]; first | rfl | done)
  refine ⟨_, (pss_one (ps_ret (pe_and (pe_callB call_isi (by rfl) T.z_isinstance (by decide +kernel) (pa_cons (pv 1) (pa_cons (pe_glob (v := .ref T.C_Polynomial) (by rfl) T.gC_Polynomial rfl) pa_nil))) (pe_one (pe_cmpR (op_eqD hr.units) (pe_fld (pv 0) rfl) (pe_fld (pv 1) rfl) (nomark _)))))), ?_⟩
  generalize start N_Polynomial___eq___v2 vs = σ at hE ⊢
  change wp (m_Polynomial___eq___v2 self other) _ _ at h
  unfold m_Polynomial___eq___v2 at h
  refine uRet (uAndV ?_)
  refine st_push hE (hf_isTupC (hΓ := rfl) (c := "Polynomial") (.own _) T.kit_tuple_Polynomial) fun hE => ?_
  refine st_vb hE fun hE => ?_
  refine st_ite h (fun h => ?_) (fun h => ?_)
  ·
    exact h.elim
  ·
    exact h _ _ _ (hE.pushS (α := Bool) (a := false) trivial).clear

theorem ok_Polynomial___add (T : Txt Pg w K mg) : FnOk Pg w K mg base (L2N.CX Pg w) 6 T.a_Polynomial___add T.d_Polynomial___add ["self", "other"] (SpM K mg 2 (fun (a : O_Polynomial × O_Polynomial) => [.im a.1, .im a.2]) (fun a => m_Polynomial___add a.1 a.2) (fun b => .im b)) := by
  refine okN T.F_Polynomial___add sc_Polynomial___add (fun vs H Q E h => h.1) fun cdv A outer s H vs Q E hr h => ?_
  obtain ⟨hl, ⟨self, other⟩, I, ρ, Θ, hE, h⟩ := h
  have hE : Env K I H (start N_Polynomial___add vs) [.im (self : O_Polynomial), .im (other : O_Polynomial), .any, .any, .any, .any, .any] ρ Θ := st_start hE (by rw [hl]; first | rfl | done)
  refine ⟨_, (pss_cons (ps_set (i := 2) sc_Polynomial___add.nd rfl (.inl rfl) (pe_callB (call_max2 rfl) (by rfl) T.z_max (by decide +kernel) (pa_cons (pe_callB call_len_seq (by rfl) T.z_len PySem.boot_len (pa_cons (pe_fld (pv 0) rfl) pa_nil)) (pa_cons (pe_callB call_len_seq (by rfl) T.z_len PySem.boot_len (pa_cons (pe_fld (pv 1) rfl) pa_nil)) pa_nil))))
      (pss_cons (ps_setLc (i := 3) (own := [("_", 6)]) (g := gName 6) (by rfl) sc_Polynomial___add.nd rfl rfl (sw_true rfl rfl rfl (by decide +kernel)) (pi_range1 (by rfl) T.z_range (pa_cons (pv 2) pa_nil)) (blkOk_by (N := N_Polynomial___add) (sc := defScope s_Polynomial___add) (by decide +kernel)) (fun _ _ _ _ _ => pg_name (i := 6) sc_Polynomial___add.nd rfl (.inl rfl)) (fun _ _ _ _ _ => pts_nil) (fun _ _ _ _ _ => pe_int))
      (pss_cons (ps_for (passes_of rfl) rfl (pi_enumT (by rfl) T.z_enumerate (pa_cons (pe_fld (pv 0) rfl) pa_nil)) (pg_tup rfl (pgs_cons (pg_name (i := 4) sc_Polynomial___add.nd rfl (.inl rfl)) (pgs_cons (pg_name (i := 5) sc_Polynomial___add.nd rfl (.inl rfl)) pgs_nil))) (pss_one (ps_asg (pv 5) (pg_sub (pv 3) (pv 4) set_list))))
      (pss_cons (ps_for (passes_of rfl) rfl (pi_enumT (by rfl) T.z_enumerate (pa_cons (pe_fld (pv 1) rfl) pa_nil)) (pg_tup rfl (pgs_cons (pg_name (i := 4) sc_Polynomial___add.nd rfl (.inl rfl)) (pgs_cons (pg_name (i := 5) sc_Polynomial___add.nd rfl (.inl rfl)) pgs_nil))) (pss_one (ps_asg (pe_op op_add (pe_ix ix_list (pv 3) (pv 4) (fun _ _ => rfl)) (pv 5)) (pg_sub (pv 3) (pv 4) set_list))))
      (pss_one (ps_ret (pe_makeS T.mk_Polynomial___init (ok_Polynomial___init (base := base) T) (hr.mono (by decide)) (by rfl) T.gC_Polynomial T.b_Polynomial___init (fun σ => L2N.passAt (L2N.takes_of rfl rfl rfl rfl) σ) (pa_cons (pv 3) pa_nil)))))))), ?_⟩
  generalize start N_Polynomial___add vs = σ at hE ⊢
  change wp (m_Polynomial___add self other) _ _ at h
  unfold m_Polynomial___add at h
  refine uSeq ?_
  refine st_setm (Γ' := fun (size : Int) => [.im (self : O_Polynomial), .im (other : O_Polynomial), .im (size : Int), .any, .any, .any, .any]) hE (hf_c2p hc_max (hf_lenHT (hv_fld (hv_var rfl) T.ko_Polynomial T.na_Polynomial_coefficients rfl rfl (fun r => fl0 r))) (hf_lenHT (hv_fld (hv_var rfl) T.ko_Polynomial T.na_Polynomial_coefficients rfl rfl (fun r => fl0 r)))) h (fun _ => rfl) (by decide : (2 : Nat) < 7) fun size σ hE h => ?_
  refine uSeq (uAsg (uLc ?_))
  refine it_rng1 hE (hf_var rfl) h fun xs1 h J hJ => ?_
  refine st_lcm (α := Int) (β := Int) (i := 6) hJ hE rfl h (fun ys2 I H v hE h => ?_) (fun __ I H σ ρ' Θ' Qe hE h => ?_)
  rotate_left 1
  ·
    refine st_push hE (hf_c (a := (0 : Int)) rfl trivial) fun hE => ?_
    exact h _ _ _ hE
  refine st_store (Γ' := [.im (self : O_Polynomial), .im (other : O_Polynomial), .im (size : Int), .own (ys2 : (List Int)), .any, .any, .any]) hE rfl (by decide : (3 : Nat) < 7) fun σ hE => ?_
  refine uSeq (uFor (uEnumT (uCons (uFld ?_))))
  refine st_var hE (i := 0) rfl fun v hE => ?_
  refine st_fld hE T.ko_Polynomial T.na_Polynomial_coefficients rfl rfl (fun r => fl0 r) fun v hE => ?_
  refine uNil ?_
  skip
  refine it_enumT hE fun ja hJ => ?_
  refine st_forS (α := (Int × Int)) hJ (fun (total : (List Int)) => [.im (self : O_Polynomial), .im (other : O_Polynomial), .im (size : Int), .own (total : (List Int)), .any, .any, .any]) hE ⟨.inr rfl, .inr rfl, .inr rfl, .inr rfl, .inl rfl, .inl rfl, .inl rfl, trivial⟩ h (fun p3 s I H σ v N B hE h => ?_) (fun s I H σ hE h => ?_)
  ·
    revert hE h; revert s; intro total hE h
    refine st_unpP hE fun va0 va1 hE => ?_
    refine uGC ?_
    refine st_store (Γ' := [.im (self : O_Polynomial), .im (other : O_Polynomial), .im (size : Int), .own (total : (List Int)), .im (p3.1 : Int), .any, .any]) hE rfl (by decide : (4 : Nat) < 7) fun σ hE => ?_
    refine uGC ?_
    refine st_store (Γ' := [.im (self : O_Polynomial), .im (other : O_Polynomial), .im (size : Int), .own (total : (List Int)), .im (p3.1 : Int), .im (p3.2 : Int), .any]) hE rfl (by decide : (5 : Nat) < 7) fun σ hE => ?_
    refine uGN (uAsg ?_)
    refine st_push hE (hf_var rfl) fun hE => ?_
    refine st_setLp (i := 3) (Γ' := fun (total : (List Int)) => [.im (self : O_Polynomial), .im (other : O_Polynomial), .im (size : Int), .own (total : (List Int)), .im (p3.1 : Int), .im (p3.2 : Int), .any]) hE rfl (hf_var rfl) h (fun _ => rfl) fun total H hE h => ?_
    exact h _ _ _ (hE.weak (Γ' := [.im (self : O_Polynomial), .im (other : O_Polynomial), .im (size : Int), .own (total : (List Int)), .any, .any, .any]) ⟨.inr rfl, .inr rfl, .inr rfl, .inr rfl, .inl rfl, .inl rfl, .inl rfl, trivial⟩)
  revert hE h; revert s; intro total hE h
  refine uSeq (uFor (uEnumT (uCons (uFld ?_))))
  refine st_var hE (i := 1) rfl fun v hE => ?_
  refine st_fld hE T.ko_Polynomial T.na_Polynomial_coefficients rfl rfl (fun r => fl0 r) fun v hE => ?_
  refine uNil ?_
  skip
  refine it_enumT hE fun ja hJ => ?_
  refine st_forS (α := (Int × Int)) hJ (fun (total : (List Int)) => [.im (self : O_Polynomial), .im (other : O_Polynomial), .im (size : Int), .own (total : (List Int)), .any, .any, .any]) hE ⟨.inr rfl, .inr rfl, .inr rfl, .inr rfl, .inl rfl, .inl rfl, .inl rfl, trivial⟩ h (fun p5 s I H σ v N B hE h => ?_) (fun s I H σ hE h => ?_)
  ·
    revert hE h; revert s; intro total hE h
    refine st_unpP hE fun va0 va1 hE => ?_
    refine uGC ?_
    refine st_store (Γ' := [.im (self : O_Polynomial), .im (other : O_Polynomial), .im (size : Int), .own (total : (List Int)), .im (p5.1 : Int), .any, .any]) hE rfl (by decide : (4 : Nat) < 7) fun σ hE => ?_
    refine uGC ?_
    refine st_store (Γ' := [.im (self : O_Polynomial), .im (other : O_Polynomial), .im (size : Int), .own (total : (List Int)), .im (p5.1 : Int), .im (p5.2 : Int), .any]) hE rfl (by decide : (5 : Nat) < 7) fun σ hE => ?_
    refine uGN (uAsg ?_)
    refine st_pushm hE (hf_mp (fun _ => hr_add) (hf_ixOp rfl (hf_var rfl)) (hf_var rfl)) h fun t7 hE h => ?_
    refine st_setLp (i := 3) (Γ' := fun (total : (List Int)) => [.im (self : O_Polynomial), .im (other : O_Polynomial), .im (size : Int), .own (total : (List Int)), .im (p5.1 : Int), .im (p5.2 : Int), .any]) hE rfl (hf_var rfl) h (fun _ => rfl) fun total H hE h => ?_
    exact h _ _ _ (hE.weak (Γ' := [.im (self : O_Polynomial), .im (other : O_Polynomial), .im (size : Int), .own (total : (List Int)), .any, .any, .any]) ⟨.inr rfl, .inr rfl, .inr rfl, .inr rfl, .inl rfl, .inl rfl, .inl rfl, trivial⟩)
  revert hE h; revert s; intro total hE h
  refine uRet ?_
  skip
  obtain ⟨I9_0, s9_0, hE9_0⟩ := hE.let (i := 3) rfl
  obtain ⟨S9, hE, backX9, backN9⟩ := hE.borrowN hE9_0 s9_0
  replace hE : Env K _ _ _ [.im (self : O_Polynomial), .im (other : O_Polynomial), .im (size : Int), .im (total : (List Int)), .any, .any, .any] _ _ := hE
  refine uMakeS (uCons ?_)
  refine st_var hE (i := 3) rfl fun v hE => ?_
  refine uNil ?_
  refine st_make total hE rfl rfl T.ko_Polynomial.at_ h (fun e x I' H' cls d hm z => let ⟨_, z⟩ := backX9 z; x _ H' cls d hm z.clear) fun t10 I H v hE h => ?_
  obtain ⟨I, hE⟩ := backN9 hE
  exact h _ _ _ hE.clear

theorem ok_Polynomial___sub (T : Txt Pg w K mg) : FnOk Pg w K mg base (L2N.CX Pg w) 6 T.a_Polynomial___sub T.d_Polynomial___sub ["self", "other"] (SpM K mg 2 (fun (a : O_Polynomial × O_Polynomial) => [.im a.1, .im a.2]) (fun a => m_Polynomial___sub a.1 a.2) (fun b => .im b)) := by
  refine okN T.F_Polynomial___sub sc_Polynomial___sub (fun vs H Q E h => h.1) fun cdv A outer s H vs Q E hr h => ?_
  obtain ⟨hl, ⟨self, other⟩, I, ρ, Θ, hE, h⟩ := h
  have hE : Env K I H (start N_Polynomial___sub vs) [.im (self : O_Polynomial), .im (other : O_Polynomial), .any, .any, .any, .any, .any] ρ Θ := st_start hE (by rw [hl]; first | rfl | done)
  refine ⟨_, (pss_cons (ps_set (i := 2) sc_Polynomial___sub.nd rfl (.inl rfl) (pe_callB (call_max2 rfl) (by rfl) T.z_max (by decide +kernel) (pa_cons (pe_callB call_len_seq (by rfl) T.z_len PySem.boot_len (pa_cons (pe_fld (pv 0) rfl) pa_nil)) (pa_cons (pe_callB call_len_seq (by rfl) T.z_len PySem.boot_len (pa_cons (pe_fld (pv 1) rfl) pa_nil)) pa_nil))))
      (pss_cons (ps_setLc (i := 3) (own := [("_", 6)]) (g := gName 6) (by rfl) sc_Polynomial___sub.nd rfl rfl (sw_true rfl rfl rfl (by decide +kernel)) (pi_range1 (by rfl) T.z_range (pa_cons (pv 2) pa_nil)) (blkOk_by (N := N_Polynomial___sub) (sc := defScope s_Polynomial___sub) (by decide +kernel)) (fun _ _ _ _ _ => pg_name (i := 6) sc_Polynomial___sub.nd rfl (.inl rfl)) (fun _ _ _ _ _ => pts_nil) (fun _ _ _ _ _ => pe_int))
      (pss_cons (ps_for (passes_of rfl) rfl (pi_enumT (by rfl) T.z_enumerate (pa_cons (pe_fld (pv 0) rfl) pa_nil)) (pg_tup rfl (pgs_cons (pg_name (i := 4) sc_Polynomial___sub.nd rfl (.inl rfl)) (pgs_cons (pg_name (i := 5) sc_Polynomial___sub.nd rfl (.inl rfl)) pgs_nil))) (pss_one (ps_asg (pv 5) (pg_sub (pv 3) (pv 4) set_list))))
      (pss_cons (ps_for (passes_of rfl) rfl (pi_enumT (by rfl) T.z_enumerate (pa_cons (pe_fld (pv 1) rfl) pa_nil)) (pg_tup rfl (pgs_cons (pg_name (i := 4) sc_Polynomial___sub.nd rfl (.inl rfl)) (pgs_cons (pg_name (i := 5) sc_Polynomial___sub.nd rfl (.inl rfl)) pgs_nil))) (pss_one (ps_asg (pe_op op_sub (pe_ix ix_list (pv 3) (pv 4) (fun _ _ => rfl)) (pv 5)) (pg_sub (pv 3) (pv 4) set_list))))
      (pss_one (ps_ret (pe_makeS T.mk_Polynomial___init (ok_Polynomial___init (base := base) T) (hr.mono (by decide)) (by rfl) T.gC_Polynomial T.b_Polynomial___init (fun σ => L2N.passAt (L2N.takes_of rfl rfl rfl rfl) σ) (pa_cons (pv 3) pa_nil)))))))), ?_⟩
  generalize start N_Polynomial___sub vs = σ at hE ⊢
  change wp (m_Polynomial___sub self other) _ _ at h
  unfold m_Polynomial___sub at h
  refine uSeq ?_
  refine st_setm (Γ' := fun (size : Int) => [.im (self : O_Polynomial), .im (other : O_Polynomial), .im (size : Int), .any, .any, .any, .any]) hE (hf_c2p hc_max (hf_lenHT (hv_fld (hv_var rfl) T.ko_Polynomial T.na_Polynomial_coefficients rfl rfl (fun r => fl0 r))) (hf_lenHT (hv_fld (hv_var rfl) T.ko_Polynomial T.na_Polynomial_coefficients rfl rfl (fun r => fl0 r)))) h (fun _ => rfl) (by decide : (2 : Nat) < 7) fun size σ hE h => ?_
  refine uSeq (uAsg (uLc ?_))
  refine it_rng1 hE (hf_var rfl) h fun xs1 h J hJ => ?_
  refine st_lcm (α := Int) (β := Int) (i := 6) hJ hE rfl h (fun ys2 I H v hE h => ?_) (fun __ I H σ ρ' Θ' Qe hE h => ?_)
  rotate_left 1
  ·
    refine st_push hE (hf_c (a := (0 : Int)) rfl trivial) fun hE => ?_
    exact h _ _ _ hE
  refine st_store (Γ' := [.im (self : O_Polynomial), .im (other : O_Polynomial), .im (size : Int), .own (ys2 : (List Int)), .any, .any, .any]) hE rfl (by decide : (3 : Nat) < 7) fun σ hE => ?_
  refine uSeq (uFor (uEnumT (uCons (uFld ?_))))
  refine st_var hE (i := 0) rfl fun v hE => ?_
  refine st_fld hE T.ko_Polynomial T.na_Polynomial_coefficients rfl rfl (fun r => fl0 r) fun v hE => ?_
  refine uNil ?_
  skip
  refine it_enumT hE fun ja hJ => ?_
  refine st_forS (α := (Int × Int)) hJ (fun (total : (List Int)) => [.im (self : O_Polynomial), .im (other : O_Polynomial), .im (size : Int), .own (total : (List Int)), .any, .any, .any]) hE ⟨.inr rfl, .inr rfl, .inr rfl, .inr rfl, .inl rfl, .inl rfl, .inl rfl, trivial⟩ h (fun p3 s I H σ v N B hE h => ?_) (fun s I H σ hE h => ?_)
  ·
    revert hE h; revert s; intro total hE h
    refine st_unpP hE fun va0 va1 hE => ?_
    refine uGC ?_
    refine st_store (Γ' := [.im (self : O_Polynomial), .im (other : O_Polynomial), .im (size : Int), .own (total : (List Int)), .im (p3.1 : Int), .any, .any]) hE rfl (by decide : (4 : Nat) < 7) fun σ hE => ?_
    refine uGC ?_
    refine st_store (Γ' := [.im (self : O_Polynomial), .im (other : O_Polynomial), .im (size : Int), .own (total : (List Int)), .im (p3.1 : Int), .im (p3.2 : Int), .any]) hE rfl (by decide : (5 : Nat) < 7) fun σ hE => ?_
    refine uGN (uAsg ?_)
    refine st_push hE (hf_var rfl) fun hE => ?_
    refine st_setLp (i := 3) (Γ' := fun (total : (List Int)) => [.im (self : O_Polynomial), .im (other : O_Polynomial), .im (size : Int), .own (total : (List Int)), .im (p3.1 : Int), .im (p3.2 : Int), .any]) hE rfl (hf_var rfl) h (fun _ => rfl) fun total H hE h => ?_
    exact h _ _ _ (hE.weak (Γ' := [.im (self : O_Polynomial), .im (other : O_Polynomial), .im (size : Int), .own (total : (List Int)), .any, .any, .any]) ⟨.inr rfl, .inr rfl, .inr rfl, .inr rfl, .inl rfl, .inl rfl, .inl rfl, trivial⟩)
  revert hE h; revert s; intro total hE h
  refine uSeq (uFor (uEnumT (uCons (uFld ?_))))
  refine st_var hE (i := 1) rfl fun v hE => ?_
  refine st_fld hE T.ko_Polynomial T.na_Polynomial_coefficients rfl rfl (fun r => fl0 r) fun v hE => ?_
  refine uNil ?_
  skip
  refine it_enumT hE fun ja hJ => ?_
  refine st_forS (α := (Int × Int)) hJ (fun (total : (List Int)) => [.im (self : O_Polynomial), .im (other : O_Polynomial), .im (size : Int), .own (total : (List Int)), .any, .any, .any]) hE ⟨.inr rfl, .inr rfl, .inr rfl, .inr rfl, .inl rfl, .inl rfl, .inl rfl, trivial⟩ h (fun p5 s I H σ v N B hE h => ?_) (fun s I H σ hE h => ?_)
  ·
    revert hE h; revert s; intro total hE h
    refine st_unpP hE fun va0 va1 hE => ?_
    refine uGC ?_
    refine st_store (Γ' := [.im (self : O_Polynomial), .im (other : O_Polynomial), .im (size : Int), .own (total : (List Int)), .im (p5.1 : Int), .any, .any]) hE rfl (by decide : (4 : Nat) < 7) fun σ hE => ?_
    refine uGC ?_
    refine st_store (Γ' := [.im (self : O_Polynomial), .im (other : O_Polynomial), .im (size : Int), .own (total : (List Int)), .im (p5.1 : Int), .im (p5.2 : Int), .any]) hE rfl (by decide : (5 : Nat) < 7) fun σ hE => ?_
    refine uGN (uAsg ?_)
    refine st_pushm hE (hf_mp (fun _ => hr_sub) (hf_ixOp rfl (hf_var rfl)) (hf_var rfl)) h fun t7 hE h => ?_
    refine st_setLp (i := 3) (Γ' := fun (total : (List Int)) => [.im (self : O_Polynomial), .im (other : O_Polynomial), .im (size : Int), .own (total : (List Int)), .im (p5.1 : Int), .im (p5.2 : Int), .any]) hE rfl (hf_var rfl) h (fun _ => rfl) fun total H hE h => ?_
    exact h _ _ _ (hE.weak (Γ' := [.im (self : O_Polynomial), .im (other : O_Polynomial), .im (size : Int), .own (total : (List Int)), .any, .any, .any]) ⟨.inr rfl, .inr rfl, .inr rfl, .inr rfl, .inl rfl, .inl rfl, .inl rfl, trivial⟩)
  revert hE h; revert s; intro total hE h
  refine uRet ?_
  skip
  obtain ⟨I9_0, s9_0, hE9_0⟩ := hE.let (i := 3) rfl
  obtain ⟨S9, hE, backX9, backN9⟩ := hE.borrowN hE9_0 s9_0
  replace hE : Env K _ _ _ [.im (self : O_Polynomial), .im (other : O_Polynomial), .im (size : Int), .im (total : (List Int)), .any, .any, .any] _ _ := hE
  refine uMakeS (uCons ?_)
  refine st_var hE (i := 3) rfl fun v hE => ?_
  refine uNil ?_
  refine st_make total hE rfl rfl T.ko_Polynomial.at_ h (fun e x I' H' cls d hm z => let ⟨_, z⟩ := backX9 z; x _ H' cls d hm z.clear) fun t10 I H v hE h => ?_
  obtain ⟨I, hE⟩ := backN9 hE
  exact h _ _ _ hE.clear

theorem ok_Polynomial___mul (T : Txt Pg w K mg) : FnOk Pg w K mg base (L2N.CX Pg w) 6 T.a_Polynomial___mul T.d_Polynomial___mul ["self", "other"] (SpM K mg 2 (fun (a : O_Polynomial × O_Polynomial) => [.im a.1, .im a.2]) (fun a => m_Polynomial___mul a.1 a.2) (fun b => .im b)) := by
  refine okN T.F_Polynomial___mul sc_Polynomial___mul (fun vs H Q E h => h.1) fun cdv A outer s H vs Q E hr h => ?_
  obtain ⟨hl, ⟨self, other⟩, I, ρ, Θ, hE, h⟩ := h
  have hE : Env K I H (start N_Polynomial___mul vs) [.im (self : O_Polynomial), .im (other : O_Polynomial), .any, .any, .any, .any, .any, .any, .any] ρ Θ := st_start hE (by rw [hl]; first | rfl | done)
  refine ⟨_, (pss_cons (ps_set (i := 2) sc_Polynomial___mul.nd rfl (.inl rfl) (pe_op op_sub (pe_op op_add (pe_callB call_len_seq (by rfl) T.z_len PySem.boot_len (pa_cons (pe_fld (pv 0) rfl) pa_nil)) (pe_callB call_len_seq (by rfl) T.z_len PySem.boot_len (pa_cons (pe_fld (pv 1) rfl) pa_nil))) pe_int))
      (pss_cons (ps_if (PW.pt (pw_or (pt_cmpR op_eq (pe_callB call_len_seq (by rfl) T.z_len PySem.boot_len (pa_cons (pe_fld (pv 0) rfl) pa_nil)) pe_int (nomark _)) (pw_or1 (pt_cmpR op_eq (pe_callB call_len_seq (by rfl) T.z_len PySem.boot_len (pa_cons (pe_fld (pv 1) rfl) pa_nil)) pe_int (nomark _))))) (pss_one (ps_set (i := 2) sc_Polynomial___mul.nd rfl (.inl rfl) pe_int)) pss_nil)
      (pss_cons (ps_if (pt_cmpR op_gt (pv 2) (pe_glob (v := .int 100) (by rfl) T.c_MOST_COEFFICIENTS ⟨_, rfl⟩) (nomark _)) (pss_one (L2N.ps_raise rfl (L2N.takes_of rfl rfl rfl rfl) (pmk_oexN (x := "TooMany") (T.x_TooMany (base := base)).T (T.x_TooMany (base := base)).iC (T.x_TooMany (base := base)).tI (T.x_TooMany (base := base)).ini (hr.mono (by decide)) (T.x_TooMany (base := base)).bI passN (by rfl) (T.x_TooMany (base := base)).gC (pa_cons (pe_glob (v := .int 100) (by rfl) T.c_MOST_COEFFICIENTS ⟨_, rfl⟩) pa_nil)))) pss_nil)
      (pss_cons (ps_setLc (i := 3) (own := [("_", 6)]) (g := gName 6) (by rfl) sc_Polynomial___mul.nd rfl rfl (sw_true rfl rfl rfl (by decide +kernel)) (pi_range1 (by rfl) T.z_range (pa_cons (pv 2) pa_nil)) (blkOk_by (N := N_Polynomial___mul) (sc := defScope s_Polynomial___mul) (by decide +kernel)) (fun _ _ _ _ _ => pg_name (i := 6) sc_Polynomial___mul.nd rfl (.inl rfl)) (fun _ _ _ _ _ => pts_nil) (fun _ _ _ _ _ => pe_int))
      (pss_cons (ps_for (passes_of rfl) rfl (pi_enumT (by rfl) T.z_enumerate (pa_cons (pe_fld (pv 0) rfl) pa_nil)) (pg_tup rfl (pgs_cons (pg_name (i := 4) sc_Polynomial___mul.nd rfl (.inl rfl)) (pgs_cons (pg_name (i := 5) sc_Polynomial___mul.nd rfl (.inl rfl)) pgs_nil))) (pss_one (ps_for (passes_of rfl) rfl (pi_enumT (by rfl) T.z_enumerate (pa_cons (pe_fld (pv 1) rfl) pa_nil)) (pg_tup rfl (pgs_cons (pg_name (i := 7) sc_Polynomial___mul.nd rfl (.inl rfl)) (pgs_cons (pg_name (i := 8) sc_Polynomial___mul.nd rfl (.inl rfl)) pgs_nil))) (pss_one (ps_asg (pe_op op_add (pe_ix ix_list (pv 3) (pe_op op_add (pv 4) (pv 7)) (fun _ _ => rfl)) (pe_op op_mulW (pv 5) (pv 8))) (pg_sub (pv 3) (pe_op op_add (pv 4) (pv 7)) set_list))))))
      (pss_one (ps_ret (pe_makeS T.mk_Polynomial___init (ok_Polynomial___init (base := base) T) (hr.mono (by decide)) (by rfl) T.gC_Polynomial T.b_Polynomial___init (fun σ => L2N.passAt (L2N.takes_of rfl rfl rfl rfl) σ) (pa_cons (pv 3) pa_nil))))))))), ?_⟩
  generalize start N_Polynomial___mul vs = σ at hE ⊢
  change wp (m_Polynomial___mul self other) _ _ at h
  unfold m_Polynomial___mul at h
  refine uSeq ?_
  refine st_setm (Γ' := fun (size : Int) => [.im (self : O_Polynomial), .im (other : O_Polynomial), .im (size : Int), .any, .any, .any, .any, .any, .any]) hE (hf_pp hr_sub (hf_pp hr_add (hf_lenHT (hv_fld (hv_var rfl) T.ko_Polynomial T.na_Polynomial_coefficients rfl rfl (fun r => fl0 r))) (hf_lenHT (hv_fld (hv_var rfl) T.ko_Polynomial T.na_Polynomial_coefficients rfl rfl (fun r => fl0 r)))) (hf_c (a := (1 : Int)) rfl trivial)) h (fun _ => rfl) (by decide : (2 : Nat) < 9) fun size σ hE h => ?_
  refine uSeq ?_
  refine st_ifj (fun (size : Int) => [.im (self : O_Polynomial), .im (other : O_Polynomial), .im (size : Int), .any, .any, .any, .any, .any, .any]) hE (ht_or_pp (ht_tt (hf_pp hr_eqI (hf_lenHT (hv_fld (hv_var rfl) T.ko_Polynomial T.na_Polynomial_coefficients rfl rfl (fun r => fl0 r))) (hf_c (a := (0 : Int)) rfl trivial))) (ht_tt (hf_pp hr_eqI (hf_lenHT (hv_fld (hv_var rfl) T.ko_Polynomial T.na_Polynomial_coefficients rfl rfl (fun r => fl0 r))) (hf_c (a := (0 : Int)) rfl trivial)))) h (fun h => ?_) (fun h => ?_) (fun s I H σ hE h => ?_)
  ·
    refine st_setm (Γ' := fun (size : Int) => [.im (self : O_Polynomial), .im (other : O_Polynomial), .im (size : Int), .any, .any, .any, .any, .any, .any]) hE (hf_c (a := (0 : Int)) rfl trivial) h (fun _ => rfl) (by decide : (2 : Nat) < 9) fun size σ hE h => ?_
    exact h _ _ _ (hE.weak (Γ' := [.im (self : O_Polynomial), .im (other : O_Polynomial), .im (size : Int), .any, .any, .any, .any, .any, .any]) ⟨.inr rfl, .inr rfl, .inr rfl, .inl rfl, .inl rfl, .inl rfl, .inl rfl, .inl rfl, .inl rfl, trivial⟩)
  ·
    refine uNext ?_
    exact h _ _ _ (hE.weak (Γ' := [.im (self : O_Polynomial), .im (other : O_Polynomial), .im (size : Int), .any, .any, .any, .any, .any, .any]) ⟨.inr rfl, .inr rfl, .inr rfl, .inl rfl, .inl rfl, .inl rfl, .inl rfl, .inl rfl, .inl rfl, trivial⟩)
  revert hE h; revert s; intro size hE h
  refine uSeq ?_
  refine st_if hE (ht_tt (hf_pp hr_gt (hf_var rfl) (hf_c (a := (100 : Int)) rfl trivial))) h (fun h => ?_) (fun h => ?_)
  ·
    exact st_raise (W := fun cls d _ H' => E cls d H') hE (hf_c (a := (100 : Int)) rfl trivial) (T.x_TooMany (base := base)).gC (fun I' H' cls d hm z => h I' H' cls d hm z.clear)
  ·
    refine uNext (uSeq (uAsg (uLc ?_)))
    refine it_rng1 hE (hf_var rfl) h fun xs1 h J hJ => ?_
    refine st_lcm (α := Int) (β := Int) (i := 6) hJ hE rfl h (fun ys2 I H v hE h => ?_) (fun __ I H σ ρ' Θ' Qe hE h => ?_)
    rotate_left 1
    ·
      refine st_push hE (hf_c (a := (0 : Int)) rfl trivial) fun hE => ?_
      exact h _ _ _ hE
    refine st_store (Γ' := [.im (self : O_Polynomial), .im (other : O_Polynomial), .im (size : Int), .own (ys2 : (List Int)), .any, .any, .any, .any, .any]) hE rfl (by decide : (3 : Nat) < 9) fun σ hE => ?_
    refine uSeq (uFor (uEnumT (uCons (uFld ?_))))
    refine st_var hE (i := 0) rfl fun v hE => ?_
    refine st_fld hE T.ko_Polynomial T.na_Polynomial_coefficients rfl rfl (fun r => fl0 r) fun v hE => ?_
    refine uNil ?_
    skip
    refine it_enumT hE fun ja hJ => ?_
    refine st_forS (α := (Int × Int)) hJ (fun (total : (List Int)) => [.im (self : O_Polynomial), .im (other : O_Polynomial), .im (size : Int), .own (total : (List Int)), .any, .any, .any, .any, .any]) hE ⟨.inr rfl, .inr rfl, .inr rfl, .inr rfl, .inl rfl, .inl rfl, .inl rfl, .inl rfl, .inl rfl, trivial⟩ h (fun p3 s I H σ v N B hE h => ?_) (fun s I H σ hE h => ?_)
    ·
      revert hE h; revert s; intro total hE h
      refine st_unpP hE fun va0 va1 hE => ?_
      refine uGC ?_
      refine st_store (Γ' := [.im (self : O_Polynomial), .im (other : O_Polynomial), .im (size : Int), .own (total : (List Int)), .im (p3.1 : Int), .any, .any, .any, .any]) hE rfl (by decide : (4 : Nat) < 9) fun σ hE => ?_
      refine uGC ?_
      refine st_store (Γ' := [.im (self : O_Polynomial), .im (other : O_Polynomial), .im (size : Int), .own (total : (List Int)), .im (p3.1 : Int), .im (p3.2 : Int), .any, .any, .any]) hE rfl (by decide : (5 : Nat) < 9) fun σ hE => ?_
      refine uGN (uFor (uEnumT (uCons (uFld ?_))))
      refine st_var hE (i := 1) rfl fun v hE => ?_
      refine st_fld hE T.ko_Polynomial T.na_Polynomial_coefficients rfl rfl (fun r => fl0 r) fun v hE => ?_
      refine uNil ?_
      skip
      refine it_enumT hE fun ja hJ => ?_
      refine st_forS (α := (Int × Int)) hJ (fun (total : (List Int)) => [.im (self : O_Polynomial), .im (other : O_Polynomial), .im (size : Int), .own (total : (List Int)), .im (p3.1 : Int), .im (p3.2 : Int), .any, .any, .any]) hE ⟨.inr rfl, .inr rfl, .inr rfl, .inr rfl, .inr rfl, .inr rfl, .inl rfl, .inl rfl, .inl rfl, trivial⟩ h (fun p4 s I H σ v N B hE h => ?_) (fun s I H σ hE h => ?_)
      ·
        revert hE h; revert s; intro total hE h
        refine st_unpP hE fun va0 va1 hE => ?_
        refine uGC ?_
        refine st_store (Γ' := [.im (self : O_Polynomial), .im (other : O_Polynomial), .im (size : Int), .own (total : (List Int)), .im (p3.1 : Int), .im (p3.2 : Int), .any, .im (p4.1 : Int), .any]) hE rfl (by decide : (7 : Nat) < 9) fun σ hE => ?_
        refine uGC ?_
        refine st_store (Γ' := [.im (self : O_Polynomial), .im (other : O_Polynomial), .im (size : Int), .own (total : (List Int)), .im (p3.1 : Int), .im (p3.2 : Int), .any, .im (p4.1 : Int), .im (p4.2 : Int)]) hE rfl (by decide : (8 : Nat) < 9) fun σ hE => ?_
        refine uGN (uAsg ?_)
        refine st_pushm hE (hf_mm (fun _ _ => hr_add) (hf_ixOp rfl (hf_pp hr_add (hf_var rfl) (hf_var rfl))) (hf_pp hr_mul (hf_var rfl) (hf_var rfl))) h fun t7 hE h => ?_
        refine st_setLp (i := 3) (Γ' := fun (total : (List Int)) => [.im (self : O_Polynomial), .im (other : O_Polynomial), .im (size : Int), .own (total : (List Int)), .im (p3.1 : Int), .im (p3.2 : Int), .any, .im (p4.1 : Int), .im (p4.2 : Int)]) hE rfl (hf_pp hr_add (hf_var rfl) (hf_var rfl)) h (fun _ => rfl) fun total H hE h => ?_
        exact h _ _ _ (hE.weak (Γ' := [.im (self : O_Polynomial), .im (other : O_Polynomial), .im (size : Int), .own (total : (List Int)), .im (p3.1 : Int), .im (p3.2 : Int), .any, .any, .any]) ⟨.inr rfl, .inr rfl, .inr rfl, .inr rfl, .inr rfl, .inr rfl, .inl rfl, .inl rfl, .inl rfl, trivial⟩)
      revert hE h; revert s; intro total hE h
      exact h _ _ _ (hE.weak (Γ' := [.im (self : O_Polynomial), .im (other : O_Polynomial), .im (size : Int), .own (total : (List Int)), .any, .any, .any, .any, .any]) ⟨.inr rfl, .inr rfl, .inr rfl, .inr rfl, .inl rfl, .inl rfl, .inl rfl, .inl rfl, .inl rfl, trivial⟩)
    revert hE h; revert s; intro total hE h
    refine uRet ?_
    skip
    obtain ⟨I10_0, s10_0, hE10_0⟩ := hE.let (i := 3) rfl
    obtain ⟨S10, hE, backX10, backN10⟩ := hE.borrowN hE10_0 s10_0
    replace hE : Env K _ _ _ [.im (self : O_Polynomial), .im (other : O_Polynomial), .im (size : Int), .im (total : (List Int)), .any, .any, .any, .any, .any] _ _ := hE
    refine uMakeS (uCons ?_)
    refine st_var hE (i := 3) rfl fun v hE => ?_
    refine uNil ?_
    refine st_make total hE rfl rfl T.ko_Polynomial.at_ h (fun e x I' H' cls d hm z => let ⟨_, z⟩ := backX10 z; x _ H' cls d hm z.clear) fun t11 I H v hE h => ?_
    obtain ⟨I, hE⟩ := backN10 hE
    exact h _ _ _ hE.clear

theorem ok_Polynomial_value_at (T : Txt Pg w K mg) : FnOk Pg w K mg base (L2N.CX Pg w) 4 T.a_Polynomial_value_at T.d_Polynomial_value_at ["self", "number"] (SpM K mg 2 (fun (a : O_Polynomial × Int) => [.im a.1, .im a.2]) (fun a => m_Polynomial_value_at a.1 a.2) (fun b => .im b)) := by
  refine okN T.F_Polynomial_value_at sc_Polynomial_value_at (fun vs H Q E h => h.1) fun cdv A outer s H vs Q E hr h => ?_
  obtain ⟨hl, ⟨self, number⟩, I, ρ, Θ, hE, h⟩ := h
  have hE : Env K I H (start N_Polynomial_value_at vs) [.im (self : O_Polynomial), .im (number : Int), .any, .any] ρ Θ := st_start hE (by rw [hl]; first | rfl | done)
  refine ⟨_, (pss_cons (ps_expr (pe_callS (ok_check_range (base := base) T) (hr.mono (by decide)) (by rfl) T.g_check_range T.F_check_range.kp T.b_check_range (fun σ => L2N.passAt (L2N.takes_of rfl rfl rfl rfl) σ) (pa_cons (pv 1) (pa_cons (pe_un un_neg (pe_glob (v := .int 1000) (by rfl) T.c_LARGEST_NUMBER ⟨_, rfl⟩)) (pa_cons (pe_glob (v := .int 1000) (by rfl) T.c_LARGEST_NUMBER ⟨_, rfl⟩) pa_nil)))))
      (pss_cons (ps_set (i := 2) sc_Polynomial_value_at.nd rfl (.inl rfl) pe_int)
      (pss_cons (ps_for (passes_of rfl) rfl (RT.pi_revA (by rfl) T.z_reversed (pe_fld (pv 0) rfl)) (pg_name (i := 3) sc_Polynomial_value_at.nd rfl (.inl rfl)) (pss_one (ps_set (i := 2) sc_Polynomial_value_at.nd rfl (.inl rfl) (pe_op op_add (pe_op op_mulW (pv 2) (pv 1)) (pv 3)))))
      (pss_one (ps_ret (pv 2)))))), ?_⟩
  generalize start N_Polynomial_value_at vs = σ at hE ⊢
  change wp (m_Polynomial_value_at self number) _ _ at h
  unfold m_Polynomial_value_at at h
  refine uSeq (uDrop (uCallS (uCons ?_)))
  refine st_push hE (hf_var rfl) fun hE => ?_
  refine uCons ?_
  refine st_push hE (hf_up hu_neg (hf_c (a := (1000 : Int)) rfl trivial)) fun hE => ?_
  refine uCons ?_
  refine st_push hE (hf_c (a := (1000 : Int)) rfl trivial) fun hE => ?_
  refine uNil ?_
  refine st_call (number, (-(1000 : Int)), (1000 : Int)) hE rfl rfl h (fun e x I' H' cls d hm z => x _ H' cls d hm z.clear) fun t1 I H v hE h => ?_
  have hE := hE.pop
  refine uSeq ?_
  refine st_setm (Γ' := fun (value : Int) => [.im (self : O_Polynomial), .im (number : Int), .im (value : Int), .any]) hE (hf_c (a := (0 : Int)) rfl trivial) h (fun _ => rfl) (by decide : (2 : Nat) < 4) fun value σ hE h => ?_
  refine uSeq (uFor (uRevA (uFld ?_)))
  refine st_var hE (i := 0) rfl fun v hE => ?_
  refine st_fld hE T.ko_Polynomial T.na_Polynomial_coefficients rfl rfl (fun r => fl0 r) fun v hE => ?_
  refine it_revT hE fun J hJ => ?_
  refine st_forS (α := Int) hJ (fun (value : Int) => [.im (self : O_Polynomial), .im (number : Int), .im (value : Int), .any]) hE ⟨.inr rfl, .inr rfl, .inr rfl, .inl rfl, trivial⟩ h (fun coefficient s I H σ v N B hE h => ?_) (fun s I H σ hE h => ?_)
  ·
    revert hE h; revert s; intro value hE h
    refine st_store (Γ' := [.im (self : O_Polynomial), .im (number : Int), .im (value : Int), .im (coefficient : Int)]) hE rfl (by decide : (3 : Nat) < 4) fun σ hE => ?_
    refine st_setm (Γ' := fun (value : Int) => [.im (self : O_Polynomial), .im (number : Int), .im (value : Int), .im (coefficient : Int)]) hE (hf_mp (fun _ => hr_add) (hf_pp hr_mul (hf_var rfl) (hf_var rfl)) (hf_var rfl)) h (fun _ => rfl) (by decide : (2 : Nat) < 4) fun value σ hE h => ?_
    exact h _ _ _ (hE.weak (Γ' := [.im (self : O_Polynomial), .im (number : Int), .im (value : Int), .any]) ⟨.inr rfl, .inr rfl, .inr rfl, .inl rfl, trivial⟩)
  revert hE h; revert s; intro value hE h
  exact st_ret hE (hf_var rfl) h

theorem ok_law_mix (T : Txt Pg w K mg) : FnOk Pg w K mg base (L2N.CX Pg w) 1 T.a_law_mix T.d_law_mix ["cell", "k"] (SpM K mg 2 (fun (a : Int × Int) => [.im a.1, .im a.2]) (fun a => m_law_mix a.1 a.2) (fun b => .im b)) := by
  refine okN T.F_law_mix sc_law_mix (fun vs H Q E h => h.1) fun cdv A outer s H vs Q E hr h => ?_
  obtain ⟨hl, ⟨cell, k_⟩, I, ρ, Θ, hE, h⟩ := h
  have hE : Env K I H (start N_law_mix vs) [.im (cell : Int), .im (k_ : Int), .any, .any] ρ Θ := st_start hE (by rw [hl]; first | rfl | done)
  refine ⟨_, (pss_cons (ps_set (i := 2) sc_law_mix.nd rfl (.inl rfl) (pe_op op_mod (pe_callTy call_int1 (by rfl) T.z_int (by decide +kernel) (pa_cons (pe_op op_add (pe_op op_add (pe_op op_mulW (pv 0) pe_int) (pe_op op_mulW (pv 1) pe_int)) pe_int) pa_nil)) pe_int))
      (pss_cons (ps_set (i := 3) sc_law_mix.nd rfl (.inl rfl) (pe_op op_mod (pe_callTy call_int1 (by rfl) T.z_int (by decide +kernel) (pa_cons (pe_op op_add (pe_op op_add (pe_op op_mulW (pv 2) (pv 2)) (pe_op op_mulW (pv 1) pe_int)) pe_int) pa_nil)) pe_int))
      (pss_one (ps_ret (pe_op op_fdivW (pe_op op_mod (pe_callTy call_int1 (by rfl) T.z_int (by decide +kernel) (pa_cons (pe_op op_add (pe_op op_mulW (pv 3) (pv 3)) (pv 2)) pa_nil)) pe_int) pe_int))))), ?_⟩
  generalize start N_law_mix vs = σ at hE ⊢
  change wp (m_law_mix cell k_) _ _ at h
  unfold m_law_mix at h
  refine uSeq ?_
  refine st_setm (Γ' := fun (one : Int) => [.im (cell : Int), .im (k_ : Int), .im (one : Int), .any]) hE (hf_mp (fun _ => hr_mod) (hf_c1m (fun _ => hc_int) (hf_mp (fun _ => hr_add) (hf_mm (fun _ _ => hr_add) (hf_pp hr_mul (hf_var rfl) (hf_c (a := (48271 : Int)) rfl trivial)) (hf_pp hr_mul (hf_var rfl) (hf_c (a := (69621 : Int)) rfl trivial))) (hf_c (a := (4951 : Int)) rfl trivial))) (hf_c (a := (2147483647 : Int)) rfl trivial)) h (fun _ => rfl) (by decide : (2 : Nat) < 4) fun one σ hE h => ?_
  refine uSeq ?_
  refine st_setm (Γ' := fun (two : Int) => [.im (cell : Int), .im (k_ : Int), .im (one : Int), .im (two : Int)]) hE (hf_mp (fun _ => hr_mod) (hf_c1m (fun _ => hc_int) (hf_mp (fun _ => hr_add) (hf_mm (fun _ _ => hr_add) (hf_pp hr_mul (hf_var rfl) (hf_var rfl)) (hf_pp hr_mul (hf_var rfl) (hf_c (a := (40692 : Int)) rfl trivial))) (hf_c (a := (7 : Int)) rfl trivial))) (hf_c (a := (2147483399 : Int)) rfl trivial)) h (fun _ => rfl) (by decide : (3 : Nat) < 4) fun two σ hE h => ?_
  exact st_retm hE (hf_mp (fun _ => hr_div) (hf_mp (fun _ => hr_mod) (hf_c1m (fun _ => hc_int) (hf_mp (fun _ => hr_add) (hf_pp hr_mul (hf_var rfl) (hf_var rfl)) (hf_var rfl))) (hf_c (a := (2147483629 : Int)) rfl trivial)) (hf_c (a := (61 : Int)) rfl trivial)) h fun t15 h => h

theorem ok_law_pool (T : Txt Pg w K mg) : FnOk Pg w K mg base (L2N.CX Pg w) 2 T.a_law_pool T.d_law_pool ["script"] (SpM K mg 1 (fun (a : Scr) => [.im a]) (fun a => m_law_pool a) (fun b => .own b)) := by
  refine okN T.F_law_pool sc_law_pool (fun vs H Q E h => h.1) fun cdv A outer s H vs Q E hr h => ?_
  obtain ⟨hl, script, I, ρ, Θ, hE, h⟩ := h
  have hE : Env K I H (start N_law_pool vs) [.im (script : Scr), .any, .any, .any, .any, .any, .any] ρ Θ := st_start hE (by rw [hl]; first | rfl | done)
  refine ⟨_, (pss_cons (ps_set (i := 1) sc_law_pool.nd rfl (.inl rfl) (pe_lst pa_nil))
      (pss_cons (ps_set (i := 2) sc_law_pool.nd rfl (.inr rfl) pe_int)
      (pss_cons (ps_for (passes_of rfl) rfl (pi_range1 (by rfl) T.z_range (pa_cons (pe_callB (call_min2 rfl) (by rfl) T.z_min (by decide +kernel) (pa_cons pe_int (pa_cons (pe_callB call_len_seq (by rfl) T.z_len PySem.boot_len (pa_cons (pv 0) pa_nil)) pa_nil))) pa_nil)) (pg_name (i := 3) sc_law_pool.nd rfl (.inr rfl)) (pss_cons (ps_set (i := 4) sc_law_pool.nd rfl (.inr rfl) (pe_callTy call_int1 (by rfl) T.z_int (by decide +kernel) (pa_cons (pe_ix ix_list (pv 0) (pv 3) (fun _ _ => rfl)) pa_nil)))
      (pss_cons (ps_set (i := 2) sc_law_pool.nd rfl (.inr rfl) (pe_op op_add (pv 2) (pe_op op_mulW (pe_op op_add (pv 3) pe_int) (pe_op op_mod (pe_callTy call_int1 (by rfl) T.z_int (by decide +kernel) (pa_cons (pv 4) pa_nil)) pe_int))))
      (pss_cons (ps_set (i := 5) sc_law_pool.nd rfl (.inl rfl) (pe_op op_mod (pe_callB call_abs (by rfl) T.z_abs (by decide +kernel) (pa_cons (pv 4) pa_nil)) (pe_op op_powW pe_int pe_int)))
      (pss_cons (ps_if (pt_cmpR op_lt (pe_callB call_abs (by rfl) T.z_abs (by decide +kernel) (pa_cons (pv 4) pa_nil)) (pe_op op_powW pe_int pe_int) (nomark _)) (pss_cons (ps_expr (pe_bm PySem.F.plainAttrs_list PySem.F.slot_list_extend PySem.F.type_list_extend mt_extend (pv 1) (pa_cons (pe_lc (own := [("k", 6)]) (g := gName 6) (by rfl) sc_law_pool.nd (pi_range1 (by rfl) T.z_range (pa_cons pe_int pa_nil)) (blkOk_by (N := N_law_pool) (sc := defScope s_law_pool) (by decide +kernel)) (fun _ _ _ _ _ => pg_name (i := 6) sc_law_pool.nd rfl (.inl rfl)) (fun _ _ _ _ _ => pts_nil) (fun _ _ _ _ _ => (pe_callS (ok_law_mix (base := base) T) (hr.mono (by decide)) (by rfl) T.g_law_mix T.F_law_mix.kp T.b_law_mix (fun σ => L2N.passAt takesN0 σ) (pa_cons (pv 4) (pa_cons (pe_op op_add (pe_op op_mulW pe_int (pv 3)) (pv 6)) pa_nil))))) pa_nil)))
      (pss_one (ps_set (i := 5) sc_law_pool.nd rfl (.inl rfl) pe_int))) pss_nil)
      (pss_one (ps_for (passes_of rfl) rfl (pi_range1 (by rfl) T.z_range (pa_cons pe_int pa_nil)) (pg_name (i := 6) sc_law_pool.nd rfl (.inl rfl)) (pss_one (ps_if (pt_cmpR op_gt (pv 5) pe_int (nomark _)) (pss_cons (ps_expr (pe_bm PySem.F.plainAttrs_list PySem.F.slot_list_append PySem.F.type_list_append mt_append (pv 1) (pa_cons (pe_op op_mod (pv 5) pe_int) pa_nil)))
      (pss_one (ps_set (i := 5) sc_law_pool.nd rfl (.inl rfl) (pe_op op_fdivW (pv 5) pe_int)))) pss_nil)))))))))
      (pss_cons (ps_expr (pe_bm PySem.F.plainAttrs_list PySem.F.slot_list_extend PySem.F.type_list_extend mt_extend (pv 1) (pa_cons (pe_lc (own := [("k", 6)]) (g := gName 6) (by rfl) sc_law_pool.nd (pi_range1 (by rfl) T.z_range (pa_cons pe_int pa_nil)) (blkOk_by (N := N_law_pool) (sc := defScope s_law_pool) (by decide +kernel)) (fun _ _ _ _ _ => pg_name (i := 6) sc_law_pool.nd rfl (.inl rfl)) (fun _ _ _ _ _ => pts_nil) (fun _ _ _ _ _ => (pe_callS (ok_law_mix (base := base) T) (hr.mono (by decide)) (by rfl) T.g_law_mix T.F_law_mix.kp T.b_law_mix (fun σ => L2N.passAt takesN0 σ) (pa_cons (pv 2) (pa_cons (pe_op op_add pe_int (pv 6)) pa_nil))))) pa_nil)))
      (pss_one (ps_ret (pe_revL (pv 1)))))))), ?_⟩
  generalize start N_law_pool vs = σ at hE ⊢
  change wp (m_law_pool script) _ _ at h
  unfold m_law_pool at h
  refine uSeq (uAsg (uLst (uNil ?_)))
  refine st_lstO (α := Int) [] [] rfl (Nat.zero_le _) hE fun H v hE => ?_
  refine st_nameO hE h fun pool hE h => ?_
  refine st_store (Γ' := [.im (script : Scr), .own (pool : (List Int)), .any, .any, .any, .any, .any]) hE rfl (by decide : (1 : Nat) < 7) fun σ hE => ?_
  refine uSeq ?_
  refine st_setm (Γ' := fun (total : Int) => [.im (script : Scr), .own (pool : (List Int)), .im (total : Int), .any, .any, .any, .any]) hE (hf_c (a := (7 : Int)) rfl trivial) h (fun _ => rfl) (by decide : (2 : Nat) < 7) fun total σ hE h => ?_
  refine uSeq (uFor ?_)
  refine it_rng1 hE (hf_c2p hc_min (hf_c (a := (63 : Int)) rfl trivial) (hf_lenScr (hΓ := rfl))) h fun xs1 h J hJ => ?_
  refine st_forS (α := Int) hJ (fun (s : (List Int) × Int) => match s with | (pool, total) => [.im (script : Scr), .own (pool : (List Int)), .im (total : Int), .any, .any, .any, .any]) hE ⟨.inr rfl, .inr rfl, .inr rfl, .inl rfl, .inl rfl, .inl rfl, .inl rfl, trivial⟩ h (fun at_ s I H σ v N B hE h => ?_) (fun s I H σ hE h => ?_)
  ·
    obtain ⟨pool, total⟩ := s
    refine st_store (Γ' := [.im (script : Scr), .own (pool : (List Int)), .im (total : Int), .im (at_ : Int), .any, .any, .any]) hE rfl (by decide : (3 : Nat) < 7) fun σ hE => ?_
    refine uSeq ?_
    refine st_setm (Γ' := fun (cell : Int) => [.im (script : Scr), .own (pool : (List Int)), .im (total : Int), .im (at_ : Int), .im (cell : Int), .any, .any]) hE (hf_c1m (fun _ => hc_int) (hf_ixScr rfl (hf_var rfl))) h (fun _ => rfl) (by decide : (4 : Nat) < 7) fun cell σ hE h => ?_
    refine uSeq ?_
    refine st_setm (Γ' := fun (total : Int) => [.im (script : Scr), .own (pool : (List Int)), .im (total : Int), .im (at_ : Int), .im (cell : Int), .any, .any]) hE (hf_pm (fun _ => hr_add) (hf_var rfl) (hf_pm (fun _ => hr_mul) (hf_pp hr_add (hf_var rfl) (hf_c (a := (1 : Int)) rfl trivial)) (hf_pp hr_mod (hf_c1p hc_int (hf_var rfl)) (hf_c (a := (1000003 : Int)) rfl trivial)))) h (fun _ => rfl) (by decide : (2 : Nat) < 7) fun total σ hE h => ?_
    refine uSeq ?_
    refine st_setm (Γ' := fun (left : Int) => [.im (script : Scr), .own (pool : (List Int)), .im (total : Int), .im (at_ : Int), .im (cell : Int), .im (left : Int), .any]) hE (hf_pp hr_mod (hf_c1p hc_abs (hf_var rfl)) (hf_is (m := (powI (5040 : Int) (64 : Int))) (m' := .ok (902722635735186226016017511669692511249051163505960854016567747379468913400983697937763300665434196528518906133967398509741886620279594406968057142252891362345034703238594560000000000000000000000000000000000000000000000000000000000000000 : Int)) (hf_pp hr_pow (hf_c (a := (5040 : Int)) rfl trivial) (hf_c (a := (64 : Int)) rfl trivial)) (by decide +kernel))) h (fun _ => rfl) (by decide : (5 : Nat) < 7) fun left σ hE h => ?_
    refine uSeq ?_
    refine st_ifj (fun (s : (List Int) × Int) => match s with | (pool, left) => [.im (script : Scr), .own (pool : (List Int)), .im (total : Int), .im (at_ : Int), .im (cell : Int), .im (left : Int), .any]) hE (ht_tt (hf_pp hr_lt (hf_c1p hc_abs (hf_var rfl)) (hf_is (m := (powI (10 : Int) (18 : Int))) (m' := .ok (1000000000000000000 : Int)) (hf_pp hr_pow (hf_c (a := (10 : Int)) rfl trivial) (hf_c (a := (18 : Int)) rfl trivial)) (by decide +kernel)))) h (fun h => ?_) (fun h => ?_) (fun s I H σ hE h => ?_)
    ·
      refine uSeq (uDrop ?_)
      refine st_bmO (i := 1) hE rfl fun l5 hl_l5 => ?_
      refine uCons (uLc ?_)
      refine it_rng1 hE (hf_c (a := (8 : Int)) rfl trivial) h fun xs7 h J hJ => ?_
      refine st_lcm (α := Int) (β := Int) (i := 6) hJ hE rfl h (fun ys11 I H v hE h => ?_) (fun k_ I H σ ρ' Θ' Qe hE h => ?_)
      rotate_left 1
      ·
        refine uCallS (uCons ?_)
        refine st_push hE (hf_var rfl) fun hE => ?_
        refine uCons ?_
        refine st_pushm hE (hf_mp (fun _ => hr_add) (hf_pp hr_mul (hf_c (a := (8 : Int)) rfl trivial) (hf_var rfl)) (hf_var rfl)) h fun t9 hE h => ?_
        refine uNil ?_
        refine st_callX (cell, t9) hE rfl rfl h  fun t10 I H v hE h => ?_
        exact h _ _ _ hE
      refine st_freezeT hE fun I hE => ?_
      refine uNil ?_
      refine st_ext (i := 1) hE hl_l5 rfl h fun pool H hE h => ?_
      replace hE : Env K _ _ _ [.im (script : Scr), .own (pool : (List Int)), .im (total : Int), .im (at_ : Int), .im (cell : Int), .im (left : Int), .any] _ _ := hE
      refine st_setm (Γ' := fun (left : Int) => [.im (script : Scr), .own (pool : (List Int)), .im (total : Int), .im (at_ : Int), .im (cell : Int), .im (left : Int), .any]) hE (hf_c (a := (0 : Int)) rfl trivial) h (fun _ => rfl) (by decide : (5 : Nat) < 7) fun left σ hE h => ?_
      exact h _ _ _ (hE.weak (Γ' := [.im (script : Scr), .own (pool : (List Int)), .im (total : Int), .im (at_ : Int), .im (cell : Int), .im (left : Int), .any]) ⟨.inr rfl, .inr rfl, .inr rfl, .inr rfl, .inr rfl, .inr rfl, .inl rfl, trivial⟩)
    ·
      refine uNext ?_
      exact h _ _ _ (hE.weak (Γ' := [.im (script : Scr), .own (pool : (List Int)), .im (total : Int), .im (at_ : Int), .im (cell : Int), .im (left : Int), .any]) ⟨.inr rfl, .inr rfl, .inr rfl, .inr rfl, .inr rfl, .inr rfl, .inl rfl, trivial⟩)
    obtain ⟨pool, left⟩ := s
    refine uFor ?_
    refine it_rng1 hE (hf_c (a := (64 : Int)) rfl trivial) h fun xs12 h J hJ => ?_
    refine st_forS (α := Int) hJ (fun (s : (List Int) × Int) => match s with | (pool, left) => [.im (script : Scr), .own (pool : (List Int)), .im (total : Int), .im (at_ : Int), .im (cell : Int), .im (left : Int), .any]) hE ⟨.inr rfl, .inr rfl, .inr rfl, .inr rfl, .inr rfl, .inr rfl, .inl rfl, trivial⟩ h (fun k_ s I H σ v N B hE h => ?_) (fun s I H σ hE h => ?_)
    ·
      obtain ⟨pool, left⟩ := s
      refine st_store (Γ' := [.im (script : Scr), .own (pool : (List Int)), .im (total : Int), .im (at_ : Int), .im (cell : Int), .im (left : Int), .im (k_ : Int)]) hE rfl (by decide : (6 : Nat) < 7) fun σ hE => ?_
      refine st_ifj (fun (s : (List Int) × Int) => match s with | (pool, left) => [.im (script : Scr), .own (pool : (List Int)), .im (total : Int), .im (at_ : Int), .im (cell : Int), .im (left : Int), .im (k_ : Int)]) hE (ht_tt (hf_pp hr_gt (hf_var rfl) (hf_c (a := (0 : Int)) rfl trivial))) h (fun h => ?_) (fun h => ?_) (fun s I H σ hE h => ?_)
      ·
        refine uSeq (uDrop ?_)
        refine st_bmO (i := 1) hE rfl fun l12 hl_l12 => ?_
        refine uCons ?_
        refine st_pushm hE (hf_pp hr_mod (hf_var rfl) (hf_c (a := (5040 : Int)) rfl trivial)) h fun t14 hE h => ?_
        refine uNil ?_
        refine st_app (i := 1) hE hl_l12 rfl h fun pool H hE h => ?_
        replace hE : Env K _ _ _ [.im (script : Scr), .own (pool : (List Int)), .im (total : Int), .im (at_ : Int), .im (cell : Int), .im (left : Int), .im (k_ : Int)] _ _ := hE
        refine st_setm (Γ' := fun (left : Int) => [.im (script : Scr), .own (pool : (List Int)), .im (total : Int), .im (at_ : Int), .im (cell : Int), .im (left : Int), .im (k_ : Int)]) hE (hf_pp hr_div (hf_var rfl) (hf_c (a := (5040 : Int)) rfl trivial)) h (fun _ => rfl) (by decide : (5 : Nat) < 7) fun left σ hE h => ?_
        exact h _ _ _ (hE.weak (Γ' := [.im (script : Scr), .own (pool : (List Int)), .im (total : Int), .im (at_ : Int), .im (cell : Int), .im (left : Int), .im (k_ : Int)]) ⟨.inr rfl, .inr rfl, .inr rfl, .inr rfl, .inr rfl, .inr rfl, .inr rfl, trivial⟩)
      ·
        refine uNext ?_
        exact h _ _ _ (hE.weak (Γ' := [.im (script : Scr), .own (pool : (List Int)), .im (total : Int), .im (at_ : Int), .im (cell : Int), .im (left : Int), .im (k_ : Int)]) ⟨.inr rfl, .inr rfl, .inr rfl, .inr rfl, .inr rfl, .inr rfl, .inr rfl, trivial⟩)
      obtain ⟨pool, left⟩ := s
      exact h _ _ _ (hE.weak (Γ' := [.im (script : Scr), .own (pool : (List Int)), .im (total : Int), .im (at_ : Int), .im (cell : Int), .im (left : Int), .any]) ⟨.inr rfl, .inr rfl, .inr rfl, .inr rfl, .inr rfl, .inr rfl, .inl rfl, trivial⟩)
    obtain ⟨pool, left⟩ := s
    exact h _ _ _ (hE.weak (Γ' := [.im (script : Scr), .own (pool : (List Int)), .im (total : Int), .any, .any, .any, .any]) ⟨.inr rfl, .inr rfl, .inr rfl, .inl rfl, .inl rfl, .inl rfl, .inl rfl, trivial⟩)
  obtain ⟨pool, total⟩ := s
  refine uSeq (uDrop ?_)
  refine st_bmO (i := 1) hE rfl fun l16 hl_l16 => ?_
  refine uCons (uLc ?_)
  refine it_rng1 hE (hf_c (a := (200 : Int)) rfl trivial) h fun xs18 h J hJ => ?_
  refine st_lcm (α := Int) (β := Int) (i := 6) hJ hE rfl h (fun ys20 I H v hE h => ?_) (fun k_ I H σ ρ' Θ' Qe hE h => ?_)
  rotate_left 1
  ·
    refine uCallS (uCons ?_)
    refine st_push hE (hf_var rfl) fun hE => ?_
    refine uCons ?_
    refine st_push hE (hf_pp hr_add (hf_c (a := (504 : Int)) rfl trivial) (hf_var rfl)) fun hE => ?_
    refine uNil ?_
    refine st_callX (total, ((504 : Int) + k_)) hE rfl rfl h  fun t19 I H v hE h => ?_
    exact h _ _ _ hE
  refine st_freezeT hE fun I hE => ?_
  refine uNil ?_
  refine st_ext (i := 1) hE hl_l16 rfl h fun pool H hE h => ?_
  replace hE : Env K _ _ _ [.im (script : Scr), .own (pool : (List Int)), .im (total : Int), .any, .any, .any, .any] _ _ := hE
  refine uRet (uRevL ?_)
  refine st_freeze (i := 1) (Γ' := [.im (script : Scr), .im (pool : (List Int)), .im (total : Int), .any, .any, .any, .any]) hE rfl rfl fun I hE => ?_
  refine st_var hE (i := 1) rfl fun v hE => ?_
  refine st_revLO hE fun H v hE => ?_
  exact h _ _ _ hE.clear

theorem ok_law_take (T : Txt Pg w K mg) : FnOk Pg w K mg base (L2N.CX Pg w) 1 T.a_law_take T.d_law_take ["pool", "size"] (SpO K mg 1 (fun (a : Int) => [.im a]) (fun s a => m_law_take s a) (fun b => .im b)) := by
  refine okN T.F_law_take sc_law_take (fun vs H Q E h => h.1) fun cdv A outer s H vs Q E hr h => ?_
  obtain ⟨hl, pool, size, I, ρ, Θ, hE, h⟩ := h
  obtain ⟨v0, vs, rfl⟩ : ∃ v0 vs1, vs = v0 :: vs1 := by cases vs with | nil => simp at hl | cons v0 vs => exact ⟨v0, vs, rfl⟩
  have hE : Env K I H (start N_law_take (v0 :: vs)) [.own (pool : (List Int)) (some v0), .im (size : Int)] ρ Θ := st_start hE (by rw [hl]; first | rfl | done)
  refine ⟨_, (pss_cons (ps_if (pt_cmpR op_eq (pe_callB call_len_seq (by rfl) T.z_len PySem.boot_len (pa_cons (pv 0) pa_nil)) pe_int (nomark _)) (pss_one (ps_ret pe_int)) pss_nil)
      (pss_one (ps_ret (pe_op op_mod (pe_callTy call_int1 (by rfl) T.z_int (by decide +kernel) (pa_cons (pe_bm0 PySem.F.plainAttrs_list PySem.F.slot_list_pop PySem.F.type_list_pop mt_pop (pv 0)) pa_nil)) (pv 1))))), ?_⟩
  generalize start N_law_take (v0 :: vs) = σ at hE ⊢
  change wp (m_law_take pool size) _ _ at h
  unfold m_law_take at h
  refine uSeq ?_
  refine st_if hE (ht_tt (hf_pp hr_eqI (hf_lenO (hΓ := rfl)) (hf_c (a := (0 : Int)) rfl trivial))) h (fun h => ?_) (fun h => ?_)
  ·
    refine uRet ?_
    refine st_push hE (hf_c (a := (0 : Int)) rfl trivial) fun hE => ?_
    exact h _ _ _ hE.only0
  ·
    refine uNext (uRet (uOp (uCB (uCons ?_))))
    refine st_bm0O (i := 0) hE rfl fun l0 hl_l0 => ?_
    refine st_pop (i := 0) hE hl_l0 rfl h fun y2 H w hE h => ?_
    refine uNil ?_
    refine st_c1 hE hc_int h fun t3 v hE h => ?_
    refine st_push hE (hf_var rfl) fun hE => ?_
    refine st_op2 hE hr_mod h fun t4 v hE h => ?_
    exact h _ _ _ hE.only0

theorem ok_law_number (T : Txt Pg w K mg) : FnOk Pg w K mg base (L2N.CX Pg w) 2 T.a_law_number T.d_law_number ["pool"] (SpO K mg 0 (fun (a : Unit) => []) (fun s a => m_law_number s ) (fun b => .im b)) := by
  refine okN T.F_law_number sc_law_number (fun vs H Q E h => h.1) fun cdv A outer s H vs Q E hr h => ?_
  obtain ⟨hl, pool, ⟨⟩, I, ρ, Θ, hE, h⟩ := h
  obtain ⟨v0, vs, rfl⟩ : ∃ v0 vs1, vs = v0 :: vs1 := by cases vs with | nil => simp at hl | cons v0 vs => exact ⟨v0, vs, rfl⟩
  have hE : Env K I H (start N_law_number (v0 :: vs)) [.own (pool : (List Int)) (some v0), .any, .any, .any] ρ Θ := st_start hE (by rw [hl]; first | rfl | done)
  refine ⟨_, (pss_cons (ps_set (i := 1) sc_law_number.nd rfl (.inl rfl) (pe_callS (ok_law_take (base := base) T) (hr.mono (by decide)) (by rfl) T.g_law_take T.F_law_take.kp T.b_law_take (fun σ => L2N.passAt (L2N.takes_of rfl rfl rfl rfl) σ) (pa_cons (pv 0) (pa_cons pe_int pa_nil))))
      (pss_cons (ps_if (pt_cmpR op_eq (pv 1) pe_int (nomark _)) (pss_one (ps_ret pe_int)) pss_nil)
      (pss_cons (ps_if (pt_cmpR op_lt (pv 1) pe_int (nomark _)) (pss_one (ps_ret (pe_op op_sub (pe_callS (ok_law_take (base := base) T) (hr.mono (by decide)) (by rfl) T.g_law_take T.F_law_take.kp T.b_law_take (fun σ => L2N.passAt (L2N.takes_of rfl rfl rfl rfl) σ) (pa_cons (pv 0) (pa_cons pe_int pa_nil))) pe_int))) pss_nil)
      (pss_cons (ps_set (i := 2) sc_law_number.nd rfl (.inl rfl) (pe_op op_add pe_int (pe_callS (ok_law_take (base := base) T) (hr.mono (by decide)) (by rfl) T.g_law_take T.F_law_take.kp T.b_law_take (fun σ => L2N.passAt (L2N.takes_of rfl rfl rfl rfl) σ) (pa_cons (pv 0) (pa_cons pe_int pa_nil)))))
      (pss_cons (ps_for (passes_of rfl) rfl (pi_range1 (by rfl) T.z_range (pa_cons (pe_callS (ok_law_take (base := base) T) (hr.mono (by decide)) (by rfl) T.g_law_take T.F_law_take.kp T.b_law_take (fun σ => L2N.passAt (L2N.takes_of rfl rfl rfl rfl) σ) (pa_cons (pv 0) (pa_cons pe_int pa_nil))) pa_nil)) (pg_name (i := 3) sc_law_number.nd rfl (.inl rfl)) (pss_one (ps_set (i := 2) sc_law_number.nd rfl (.inl rfl) (pe_op op_add (pe_op op_mulW (pv 2) pe_int) (pe_callS (ok_law_take (base := base) T) (hr.mono (by decide)) (by rfl) T.g_law_take T.F_law_take.kp T.b_law_take (fun σ => L2N.passAt (L2N.takes_of rfl rfl rfl rfl) σ) (pa_cons (pv 0) (pa_cons pe_int pa_nil)))))))
      (pss_cons (ps_if (pt_cmpR op_eq (pv 1) pe_int (nomark _)) (pss_one (ps_ret (pe_op op_sub pe_int (pv 2)))) pss_nil)
      (pss_one (ps_ret (pv 2))))))))), ?_⟩
  generalize start N_law_number (v0 :: vs) = σ at hE ⊢
  change wp (m_law_number pool) _ _ at h
  unfold m_law_number at h
  refine uSeq (uAsg (uCallS (uCons ?_)))
  refine st_varO (i := 0) hE rfl fun va h0_0 => ?_
  refine uCons ?_
  refine st_push hE (hf_c (a := (5 : Int)) rfl trivial) fun hE => ?_
  refine uNil ?_
  refine st_callO (i := 0) (5 : Int) rfl h0_0 hE rfl rfl h (fun e x I' H' cls d hm z => x _ H' cls d hm z.clear) fun t2 I H v hE h => ?_
  refine st_store (Γ' := [.own (t2.2 : (List Int)) (some v0), .im (t2.1 : Int), .any, .any]) hE rfl (by decide : (1 : Nat) < 4) fun σ hE => ?_
  refine uSeq ?_
  refine st_if hE (ht_tt (hf_pp hr_eqI (hf_var rfl) (hf_c (a := (0 : Int)) rfl trivial))) h (fun h => ?_) (fun h => ?_)
  ·
    refine uRet ?_
    refine st_push hE (hf_c (a := (0 : Int)) rfl trivial) fun hE => ?_
    exact h _ _ _ hE.only0
  ·
    refine uNext (uSeq ?_)
    refine st_if hE (ht_tt (hf_pp hr_lt (hf_var rfl) (hf_c (a := (3 : Int)) rfl trivial))) h (fun h => ?_) (fun h => ?_)
    ·
      refine uRet (uOp (uCallS (uCons ?_)))
      refine st_varO (i := 0) hE rfl fun va h0_2 => ?_
      refine uCons ?_
      refine st_push hE (hf_c (a := (9 : Int)) rfl trivial) fun hE => ?_
      refine uNil ?_
      refine st_callO (i := 0) (9 : Int) rfl h0_2 hE rfl rfl h (fun e x I' H' cls d hm z => x _ H' cls d hm z.clear) fun t4 I H v hE h => ?_
      refine st_push hE (hf_c (a := (4 : Int)) rfl trivial) fun hE => ?_
      refine st_op2 hE hr_sub h fun t5 v hE h => ?_
      exact h _ _ _ hE.only0
    ·
      refine uNext (uSeq (uAsg (uOp ?_)))
      refine st_push hE (hf_c (a := (1 : Int)) rfl trivial) fun hE => ?_
      refine uCallS (uCons ?_)
      refine st_varO (i := 0) hE rfl fun va h0_5 => ?_
      refine uCons ?_
      refine st_push hE (hf_c (a := (5039 : Int)) rfl trivial) fun hE => ?_
      refine uNil ?_
      refine st_callO (i := 0) (5039 : Int) rfl h0_5 hE rfl rfl h (fun e x I' H' cls d hm z => x _ H' cls d hm z.clear.nip) fun t7 I H v hE h => ?_
      refine st_op2 hE hr_add h fun t8 v hE h => ?_
      refine st_store (Γ' := [.own (t7.2 : (List Int)) (some v0), .im (t2.1 : Int), .im (t8 : Int), .any]) hE rfl (by decide : (2 : Nat) < 4) fun σ hE => ?_
      refine uSeq (uFor (uRng1 (uCons (uCallS (uCons ?_)))))
      refine st_varO (i := 0) hE rfl fun va h0_9 => ?_
      refine uCons ?_
      refine st_push hE (hf_c (a := (8 : Int)) rfl trivial) fun hE => ?_
      refine uNil ?_
      refine st_callO (i := 0) (8 : Int) rfl h0_9 hE rfl rfl h (fun e x I' H' cls d hm z => x _ H' cls d hm z.clear) fun t11 I H v hE h => ?_
      refine uNil ?_
      refine it_rng1S hE h fun xs9 h hE J hJ => ?_
      refine st_forS (α := Int) hJ (fun (s : (List Int) × Int) => match s with | (pool, number) => [.own (pool : (List Int)) (some v0), .im (t2.1 : Int), .im (number : Int), .any]) hE ⟨.inr rfl, .inr rfl, .inr rfl, .inl rfl, trivial⟩ h (fun k_ s I H σ v N B hE h => ?_) (fun s I H σ hE h => ?_)
      ·
        obtain ⟨pool, number⟩ := s
        refine st_store (Γ' := [.own (pool : (List Int)) (some v0), .im (t2.1 : Int), .im (number : Int), .im (k_ : Int)]) hE rfl (by decide : (3 : Nat) < 4) fun σ hE => ?_
        refine uAsg (uOp ?_)
        refine st_pushm hE (hf_pp hr_mul (hf_var rfl) (hf_c (a := (5040 : Int)) rfl trivial)) h fun t12 hE h => ?_
        refine uCallS (uCons ?_)
        refine st_varO (i := 0) hE rfl fun va h0_12 => ?_
        refine uCons ?_
        refine st_push hE (hf_c (a := (5040 : Int)) rfl trivial) fun hE => ?_
        refine uNil ?_
        refine st_callO (i := 0) (5040 : Int) rfl h0_12 hE rfl rfl h (fun e x I' H' cls d hm z => x _ H' cls d hm z.clear.nip) fun t14 I H v hE h => ?_
        refine st_op2 hE hr_add h fun t15 v hE h => ?_
        refine st_store (Γ' := [.own (t14.2 : (List Int)) (some v0), .im (t2.1 : Int), .im (t15 : Int), .im (k_ : Int)]) hE rfl (by decide : (2 : Nat) < 4) fun σ hE => ?_
        exact h _ _ _ (hE.weak (Γ' := [.own (t14.2 : (List Int)) (some v0), .im (t2.1 : Int), .im (t15 : Int), .any]) ⟨.inr rfl, .inr rfl, .inr rfl, .inl rfl, trivial⟩)
      obtain ⟨pool, number⟩ := s
      refine uSeq ?_
      refine st_if hE (ht_tt (hf_pp hr_eqI (hf_var rfl) (hf_c (a := (3 : Int)) rfl trivial))) h (fun h => ?_) (fun h => ?_)
      ·
        refine uRet ?_
        refine st_push hE (hf_pp hr_sub (hf_c (a := (0 : Int)) rfl trivial) (hf_var rfl)) fun hE => ?_
        exact h _ _ _ hE.only0
      ·
        refine uNext (uRet ?_)
        refine st_push hE (hf_var rfl) fun hE => ?_
        exact h _ _ _ hE.only0

theorem ok_law_list (T : Txt Pg w K mg) : FnOk Pg w K mg base (L2N.CX Pg w) 3 T.a_law_list T.d_law_list ["pool"] (SpO K mg 0 (fun (a : Unit) => []) (fun s a => m_law_list s ) (fun b => .im b)) := by
  refine okN T.F_law_list sc_law_list (fun vs H Q E h => h.1) fun cdv A outer s H vs Q E hr h => ?_
  obtain ⟨hl, pool, ⟨⟩, I, ρ, Θ, hE, h⟩ := h
  obtain ⟨v0, vs, rfl⟩ : ∃ v0 vs1, vs = v0 :: vs1 := by cases vs with | nil => simp at hl | cons v0 vs => exact ⟨v0, vs, rfl⟩
  have hE : Env K I H (start N_law_list (v0 :: vs)) [.own (pool : (List Int)) (some v0), .any, .any] ρ Θ := st_start hE (by rw [hl]; first | rfl | done)
  refine ⟨_, (pss_cons (ps_setLc (i := 1) (own := [("k", 2)]) (g := gName 2) (by rfl) sc_law_list.nd rfl rfl (sw_true rfl rfl rfl (by decide +kernel)) (pi_range1 (by rfl) T.z_range (pa_cons (pe_callS (ok_law_take (base := base) T) (hr.mono (by decide)) (by rfl) T.g_law_take T.F_law_take.kp T.b_law_take (fun σ => L2N.passAt (L2N.takes_of rfl rfl rfl rfl) σ) (pa_cons (pv 0) (pa_cons pe_int pa_nil))) pa_nil)) (blkOk_by (N := N_law_list) (sc := defScope s_law_list) (by decide +kernel)) (fun _ _ _ _ _ => pg_name (i := 2) sc_law_list.nd rfl (.inl rfl)) (fun _ _ _ _ _ => pts_nil) (fun _ _ _ _ _ => (pe_callS (ok_law_number (base := base) T) (hr.mono (by decide)) (by rfl) T.g_law_number T.F_law_number.kp T.b_law_number (fun σ => L2N.passAt takesN0 σ) (pa_cons (pv 0) pa_nil))))
      (pss_one (ps_ret (pe_op op_cat (pv 1) (pe_lc (own := [("k", 2)]) (g := gName 2) (by rfl) sc_law_list.nd (pi_range1 (by rfl) T.z_range (pa_cons (pe_callS (ok_law_take (base := base) T) (hr.mono (by decide)) (by rfl) T.g_law_take T.F_law_take.kp T.b_law_take (fun σ => L2N.passAt (L2N.takes_of rfl rfl rfl rfl) σ) (pa_cons (pv 0) (pa_cons pe_int pa_nil))) pa_nil)) (blkOk_by (N := N_law_list) (sc := defScope s_law_list) (by decide +kernel)) (fun _ _ _ _ _ => pg_name (i := 2) sc_law_list.nd rfl (.inl rfl)) (fun _ _ _ _ _ => pts_nil) (fun _ _ _ _ _ => pe_int)))))), ?_⟩
  generalize start N_law_list (v0 :: vs) = σ at hE ⊢
  change wp (m_law_list pool) _ _ at h
  unfold m_law_list at h
  refine uSeq (uAsg (uLc (uRng1 (uCons (uCallS (uCons ?_))))))
  refine st_varO (i := 0) hE rfl fun va h0_1 => ?_
  refine uCons ?_
  refine st_push hE (hf_c (a := (10 : Int)) rfl trivial) fun hE => ?_
  refine uNil ?_
  refine st_callO (i := 0) (10 : Int) rfl h0_1 hE rfl rfl h (fun e x I' H' cls d hm z => x _ H' cls d hm z.clear) fun t3 I H v hE h => ?_
  refine uNil ?_
  refine it_rng1S hE h fun xs1 h hE J hJ => ?_
  refine st_lcs (α := Int) (β := Int) (S := (List Int)) (i := 2) (fun (z : (List Int)) => [.own (z : (List Int)) (some v0), .any, .any]) hJ hE (fun _ => rfl) h (fun ysl ysr I H v hE h => ?_) (fun k_ s4 I H σ ρ' Θ' Qe hE h => ?_)
  rotate_left 1
  ·
    replace hE : Env K _ _ _ [.own (s4 : (List Int)) (some v0), .any, .im (k_ : Int)] _ _ := hE
    refine uCallS (uCons ?_)
    refine st_varO (i := 0) hE rfl fun va h0_4 => ?_
    refine uNil ?_
    refine st_callOX (i := 0) () rfl h0_4 hE rfl rfl h  fun t6 I H v hE h => ?_
    exact h _ _ _ hE
  obtain ⟨ys7, eys7⟩ : ∃ y : List Int × (List Int), y = (ysl, ysr) := ⟨_, rfl⟩
  rw [← eys7] at h
  have elys7 : ysl = ys7.1 := by rw [eys7]
  have erys7 : ysr = ys7.2 := by rw [eys7]
  subst elys7 erys7
  replace hE : Env K _ _ _ [.own (ys7.2 : (List Int)) (some v0), .any, .any] _ _ := hE
  refine st_freezeT hE fun I hE => ?_
  refine st_store (Γ' := [.own (ys7.2 : (List Int)) (some v0), .im (ys7.1 : (List Int)), .any]) hE rfl (by decide : (1 : Nat) < 3) fun σ hE => ?_
  refine uRet (uOp ?_)
  refine st_var hE (i := 1) rfl fun v hE => ?_
  refine uLc (uRng1 (uCons (uCallS (uCons ?_))))
  refine st_varO (i := 0) hE rfl fun va h0_8 => ?_
  refine uCons ?_
  refine st_push hE (hf_c (a := (4 : Int)) rfl trivial) fun hE => ?_
  refine uNil ?_
  refine st_callO (i := 0) (4 : Int) rfl h0_8 hE rfl rfl h (fun e x I' H' cls d hm z => x _ H' cls d hm z.clear.nip) fun t10 I H v hE h => ?_
  refine uNil ?_
  refine it_rng1S hE h fun xs8 h hE J hJ => ?_
  refine st_lcm (α := Int) (β := Int) (i := 2) hJ hE rfl h (fun ys11 I H v hE h => ?_) (fun k_ I H σ ρ' Θ' Qe hE h => ?_)
  rotate_left 1
  ·
    refine st_push hE (hf_c (a := (0 : Int)) rfl trivial) fun hE => ?_
    exact h _ _ _ hE
  refine st_freezeT hE fun I hE => ?_
  refine st_catI hE h fun t12 I H v hE h => ?_
  exact h _ _ _ hE.only0

theorem ok_law_long (T : Txt Pg w K mg) : FnOk Pg w K mg base (L2N.CX Pg w) 2 T.a_law_long T.d_law_long ["pool", "size"] (SpO K mg 1 (fun (a : Int) => [.im a]) (fun s a => m_law_long s a) (fun b => .im b)) := by
  refine okN T.F_law_long sc_law_long (fun vs H Q E h => h.1) fun cdv A outer s H vs Q E hr h => ?_
  obtain ⟨hl, pool, size, I, ρ, Θ, hE, h⟩ := h
  obtain ⟨v0, vs, rfl⟩ : ∃ v0 vs1, vs = v0 :: vs1 := by cases vs with | nil => simp at hl | cons v0 vs => exact ⟨v0, vs, rfl⟩
  have hE : Env K I H (start N_law_long (v0 :: vs)) [.own (pool : (List Int)) (some v0), .im (size : Int), .any, .any, .any, .any] ρ Θ := st_start hE (by rw [hl]; first | rfl | done)
  refine ⟨_, (pss_cons (ps_set (i := 2) sc_law_long.nd rfl (.inr rfl) (pe_op op_add pe_int (pe_callS (ok_law_take (base := base) T) (hr.mono (by decide)) (by rfl) T.g_law_take T.F_law_take.kp T.b_law_take (fun σ => L2N.passAt (L2N.takes_of rfl rfl rfl rfl) σ) (pa_cons (pv 0) (pa_cons pe_int pa_nil)))))
      (pss_cons (ps_set (i := 3) sc_law_long.nd rfl (.inr rfl) (pe_callS (ok_law_take (base := base) T) (hr.mono (by decide)) (by rfl) T.g_law_take T.F_law_take.kp T.b_law_take (fun σ => L2N.passAt (L2N.takes_of rfl rfl rfl rfl) σ) (pa_cons (pv 0) (pa_cons pe_int pa_nil))))
      (pss_cons (ps_setLc (i := 4) (own := [("k", 5)]) (g := gName 5) (by rfl) sc_law_long.nd rfl rfl (sw_true rfl rfl rfl (by decide +kernel)) (pi_range1 (by rfl) T.z_range (pa_cons (pe_op op_sub (pv 1) pe_int) pa_nil)) (blkOk_by (N := N_law_long) (sc := defScope s_law_long) (by decide +kernel)) (fun _ _ _ _ _ => pg_name (i := 5) sc_law_long.nd rfl (.inl rfl)) (fun _ _ _ _ _ => pts_nil) (fun _ _ _ _ _ => (pe_op op_sub (pe_op op_mod (pe_callTy call_int1 (by rfl) T.z_int (by decide +kernel) (pa_cons (pe_op op_add (pe_op op_mulW (pv 2) (pv 5)) (pe_op op_mulW (pv 3) (pe_op op_fdivW (pv 5) pe_int))) pa_nil)) pe_int) pe_int)))
      (pss_one (ps_ret (pe_op op_cat (pv 4) (pe_lst (pa_cons (pe_op op_add pe_int (pe_callS (ok_law_take (base := base) T) (hr.mono (by decide)) (by rfl) T.g_law_take T.F_law_take.kp T.b_law_take (fun σ => L2N.passAt (L2N.takes_of rfl rfl rfl rfl) σ) (pa_cons (pv 0) (pa_cons pe_int pa_nil)))) pa_nil)))))))), ?_⟩
  generalize start N_law_long (v0 :: vs) = σ at hE ⊢
  change wp (m_law_long pool size) _ _ at h
  unfold m_law_long at h
  refine uSeq (uAsg (uOp ?_))
  refine st_push hE (hf_c (a := (1 : Int)) rfl trivial) fun hE => ?_
  refine uCallS (uCons ?_)
  refine st_varO (i := 0) hE rfl fun va h0_0 => ?_
  refine uCons ?_
  refine st_push hE (hf_c (a := (96 : Int)) rfl trivial) fun hE => ?_
  refine uNil ?_
  refine st_callO (i := 0) (96 : Int) rfl h0_0 hE rfl rfl h (fun e x I' H' cls d hm z => x _ H' cls d hm z.clear.nip) fun t2 I H v hE h => ?_
  refine st_op2 hE hr_add h fun t3 v hE h => ?_
  refine st_store (Γ' := [.own (t2.2 : (List Int)) (some v0), .im (size : Int), .im (t3 : Int), .any, .any, .any]) hE rfl (by decide : (2 : Nat) < 6) fun σ hE => ?_
  refine uSeq (uAsg (uCallS (uCons ?_)))
  refine st_varO (i := 0) hE rfl fun va h0_3 => ?_
  refine uCons ?_
  refine st_push hE (hf_c (a := (97 : Int)) rfl trivial) fun hE => ?_
  refine uNil ?_
  refine st_callO (i := 0) (97 : Int) rfl h0_3 hE rfl rfl h (fun e x I' H' cls d hm z => x _ H' cls d hm z.clear) fun t5 I H v hE h => ?_
  refine st_store (Γ' := [.own (t5.2 : (List Int)) (some v0), .im (size : Int), .im (t3 : Int), .im (t5.1 : Int), .any, .any]) hE rfl (by decide : (3 : Nat) < 6) fun σ hE => ?_
  refine uSeq (uAsg (uLc ?_))
  refine it_rng1 hE (hf_pp hr_sub (hf_var rfl) (hf_c (a := (1 : Int)) rfl trivial)) h fun xs6 h J hJ => ?_
  refine st_lcm (α := Int) (β := Int) (i := 5) hJ hE rfl h (fun ys14 I H v hE h => ?_) (fun k_ I H σ ρ' Θ' Qe hE h => ?_)
  rotate_left 1
  ·
    refine st_pushm hE (hf_mp (fun _ => hr_sub) (hf_mp (fun _ => hr_mod) (hf_c1m (fun _ => hc_int) (hf_mm (fun _ _ => hr_add) (hf_pp hr_mul (hf_var rfl) (hf_var rfl)) (hf_pm (fun _ => hr_mul) (hf_var rfl) (hf_pp hr_div (hf_var rfl) (hf_c (a := (3 : Int)) rfl trivial))))) (hf_c (a := (7 : Int)) rfl trivial)) (hf_c (a := (3 : Int)) rfl trivial)) h fun t13 hE h => ?_
    exact h _ _ _ hE
  refine st_freezeT hE fun I hE => ?_
  refine st_store (Γ' := [.own (t5.2 : (List Int)) (some v0), .im (size : Int), .im (t3 : Int), .im (t5.1 : Int), .im (ys14 : (List Int)), .any]) hE rfl (by decide : (4 : Nat) < 6) fun σ hE => ?_
  refine uRet (uOp ?_)
  refine st_var hE (i := 4) rfl fun v hE => ?_
  refine uLst (uCons (uOp ?_))
  refine st_push hE (hf_c (a := (1 : Int)) rfl trivial) fun hE => ?_
  refine uCallS (uCons ?_)
  refine st_varO (i := 0) hE rfl fun va h0_14 => ?_
  refine uCons ?_
  refine st_push hE (hf_c (a := (9 : Int)) rfl trivial) fun hE => ?_
  refine uNil ?_
  refine st_callO (i := 0) (9 : Int) rfl h0_14 hE rfl rfl h (fun e x I' H' cls d hm z => x _ H' cls d hm z.clear.nip.nip) fun t16 I H v hE h => ?_
  refine st_op2 hE hr_add h fun t17 v hE h => ?_
  refine uNil ?_
  refine st_lstI (α := Int) _ [t17] rfl (by decide : (1 : Nat) ≤ line) hE fun I H v hE => ?_
  refine st_catI hE h fun t18 I H v hE h => ?_
  exact h _ _ _ hE.only0

theorem ok_law_trimmed (T : Txt Pg w K mg) : FnOk Pg w K mg base (L2N.CX Pg w) 1 T.a_law_trimmed T.d_law_trimmed ["row"] (SpM K mg 1 (fun (a : (List Int)) => [.im a]) (fun a => m_law_trimmed a) (fun b => .im b)) := by
  refine okN T.F_law_trimmed sc_law_trimmed (fun vs H Q E h => h.1) fun cdv A outer s H vs Q E hr h => ?_
  obtain ⟨hl, row, I, ρ, Θ, hE, h⟩ := h
  have hE : Env K I H (start N_law_trimmed vs) [.im (row : (List Int)), .any, .any] ρ Θ := st_start hE (by rw [hl]; first | rfl | done)
  refine ⟨_, (pss_cons (ps_set (i := 1) sc_law_trimmed.nd rfl (.inl rfl) pe_int)
      (pss_cons (ps_for (passes_of rfl) rfl (pi_range1 (by rfl) T.z_range (pa_cons (pe_callB call_len_seq (by rfl) T.z_len PySem.boot_len (pa_cons (pv 0) pa_nil)) pa_nil)) (pg_name (i := 2) sc_law_trimmed.nd rfl (.inl rfl)) (pss_one (ps_if (pt_cmpR op_ne (pe_ix ix_list (pv 0) (pv 2) (fun _ _ => rfl)) pe_int (nomark _)) (pss_one (ps_set (i := 1) sc_law_trimmed.nd rfl (.inl rfl) (pe_op op_add (pv 2) pe_int))) pss_nil)))
      (pss_one (ps_ret (pe_slice sl_list (pv 0) po_none (po_some (pv 1))))))), ?_⟩
  generalize start N_law_trimmed vs = σ at hE ⊢
  change wp (m_law_trimmed row) _ _ at h
  unfold m_law_trimmed at h
  refine uSeq ?_
  refine st_setm (Γ' := fun (size : Int) => [.im (row : (List Int)), .im (size : Int), .any]) hE (hf_c (a := (0 : Int)) rfl trivial) h (fun _ => rfl) (by decide : (1 : Nat) < 3) fun size σ hE h => ?_
  refine uSeq (uFor ?_)
  refine it_rng1 hE (hf_lenL (hΓ := rfl)) h fun xs1 h J hJ => ?_
  refine st_forS (α := Int) hJ (fun (size : Int) => [.im (row : (List Int)), .im (size : Int), .any]) hE ⟨.inr rfl, .inr rfl, .inl rfl, trivial⟩ h (fun k_ s I H σ v N B hE h => ?_) (fun s I H σ hE h => ?_)
  ·
    revert hE h; revert s; intro size hE h
    refine st_store (Γ' := [.im (row : (List Int)), .im (size : Int), .im (k_ : Int)]) hE rfl (by decide : (2 : Nat) < 3) fun σ hE => ?_
    refine st_ifjm (fun (size : Int) => [.im (row : (List Int)), .im (size : Int), .im (k_ : Int)]) hE (ht_tt (hf_mp (fun _ => hr_neI) (hf_ixLp rfl (hf_var rfl)) (hf_c (a := (0 : Int)) rfl trivial))) h (fun h => ?_) (fun h => ?_) (fun s I H σ hE h => ?_)
    ·
      refine st_setm (Γ' := fun (size : Int) => [.im (row : (List Int)), .im (size : Int), .im (k_ : Int)]) hE (hf_pp hr_add (hf_var rfl) (hf_c (a := (1 : Int)) rfl trivial)) h (fun _ => rfl) (by decide : (1 : Nat) < 3) fun size σ hE h => ?_
      exact h _ _ _ (hE.weak (Γ' := [.im (row : (List Int)), .im (size : Int), .im (k_ : Int)]) ⟨.inr rfl, .inr rfl, .inr rfl, trivial⟩)
    ·
      refine uNext ?_
      exact h _ _ _ (hE.weak (Γ' := [.im (row : (List Int)), .im (size : Int), .im (k_ : Int)]) ⟨.inr rfl, .inr rfl, .inr rfl, trivial⟩)
    revert hE h; revert s; intro size hE h
    exact h _ _ _ (hE.weak (Γ' := [.im (row : (List Int)), .im (size : Int), .any]) ⟨.inr rfl, .inr rfl, .inl rfl, trivial⟩)
  revert hE h; revert s; intro size hE h
  refine uRet (uSl ?_)
  refine st_var hE (i := 0) rfl fun v hE => ?_
  refine st_bdp hE ho_none ?_
  refine st_bdp hE (ho_p (hf_var rfl)) ?_
  refine st_slL hE fun I H v hE => ?_
  exact h _ _ _ hE.clear

theorem ok_law_plus (T : Txt Pg w K mg) : FnOk Pg w K mg base (L2N.CX Pg w) 2 T.a_law_plus T.d_law_plus ["one", "two", "sign"] (SpM K mg 3 (fun (a : (List Int) × (List Int) × Int) => [.im a.1, .im a.2.1, .im a.2.2]) (fun a => m_law_plus a.1 a.2.1 a.2.2) (fun b => .im b)) := by
  refine okN T.F_law_plus sc_law_plus (fun vs H Q E h => h.1) fun cdv A outer s H vs Q E hr h => ?_
  obtain ⟨hl, ⟨one, two, sign⟩, I, ρ, Θ, hE, h⟩ := h
  have hE : Env K I H (start N_law_plus vs) [.im (one : (List Int)), .im (two : (List Int)), .im (sign : Int), .any, .any, .any, .any] ρ Θ := st_start hE (by rw [hl]; first | rfl | done)
  refine ⟨_, (pss_cons (ps_set (i := 3) sc_law_plus.nd rfl (.inl rfl) (pe_callB (call_max2 rfl) (by rfl) T.z_max (by decide +kernel) (pa_cons (pe_callB call_len_seq (by rfl) T.z_len PySem.boot_len (pa_cons (pv 0) pa_nil)) (pa_cons (pe_callB call_len_seq (by rfl) T.z_len PySem.boot_len (pa_cons (pv 1) pa_nil)) pa_nil))))
      (pss_cons (ps_set (i := 4) sc_law_plus.nd rfl (.inr rfl) (pe_op op_cat (pv 0) (pe_lc (own := [("k", 6)]) (g := gName 6) (by rfl) sc_law_plus.nd (pi_range1 (by rfl) T.z_range (pa_cons (pe_op op_sub (pv 3) (pe_callB call_len_seq (by rfl) T.z_len PySem.boot_len (pa_cons (pv 0) pa_nil))) pa_nil)) (blkOk_by (N := N_law_plus) (sc := defScope s_law_plus) (by decide +kernel)) (fun _ _ _ _ _ => pg_name (i := 6) sc_law_plus.nd rfl (.inl rfl)) (fun _ _ _ _ _ => pts_nil) (fun _ _ _ _ _ => pe_int))))
      (pss_cons (ps_set (i := 5) sc_law_plus.nd rfl (.inr rfl) (pe_op op_cat (pv 1) (pe_lc (own := [("k", 6)]) (g := gName 6) (by rfl) sc_law_plus.nd (pi_range1 (by rfl) T.z_range (pa_cons (pe_op op_sub (pv 3) (pe_callB call_len_seq (by rfl) T.z_len PySem.boot_len (pa_cons (pv 1) pa_nil))) pa_nil)) (blkOk_by (N := N_law_plus) (sc := defScope s_law_plus) (by decide +kernel)) (fun _ _ _ _ _ => pg_name (i := 6) sc_law_plus.nd rfl (.inl rfl)) (fun _ _ _ _ _ => pts_nil) (fun _ _ _ _ _ => pe_int))))
      (pss_one (ps_ret (pe_callS (ok_law_trimmed (base := base) T) (hr.mono (by decide)) (by rfl) T.g_law_trimmed T.F_law_trimmed.kp T.b_law_trimmed (fun σ => L2N.passAt (L2N.takes_of rfl rfl rfl rfl) σ) (pa_cons (pe_lc (own := [("k", 6)]) (g := gName 6) (by rfl) sc_law_plus.nd (pi_range1 (by rfl) T.z_range (pa_cons (pv 3) pa_nil)) (blkOk_by (N := N_law_plus) (sc := defScope s_law_plus) (by decide +kernel)) (fun _ _ _ _ _ => pg_name (i := 6) sc_law_plus.nd rfl (.inl rfl)) (fun _ _ _ _ _ => pts_nil) (fun _ _ _ _ _ => (pe_op op_add (pe_ix (r := rIxL K) ix_list (pv 4) (pv 6) (fun _ _ => rfl)) (pe_op op_mulW (pv 2) (pe_ix (r := rIxL K) ix_list (pv 5) (pv 6) (fun _ _ => rfl)))))) pa_nil))))))), ?_⟩
  generalize start N_law_plus vs = σ at hE ⊢
  change wp (m_law_plus one two sign) _ _ at h
  unfold m_law_plus at h
  refine uSeq ?_
  refine st_setm (Γ' := fun (size : Int) => [.im (one : (List Int)), .im (two : (List Int)), .im (sign : Int), .im (size : Int), .any, .any, .any]) hE (hf_c2p hc_max (hf_lenL (hΓ := rfl)) (hf_lenL (hΓ := rfl))) h (fun _ => rfl) (by decide : (3 : Nat) < 7) fun size σ hE h => ?_
  refine uSeq (uAsg (uOp ?_))
  refine st_var hE (i := 0) rfl fun v hE => ?_
  refine uLc ?_
  refine it_rng1 hE (hf_pp hr_sub (hf_var rfl) (hf_lenL (hΓ := rfl))) h fun xs1 h J hJ => ?_
  refine st_lcm (α := Int) (β := Int) (i := 6) hJ hE rfl h (fun ys2 I H v hE h => ?_) (fun k_ I H σ ρ' Θ' Qe hE h => ?_)
  rotate_left 1
  ·
    refine st_push hE (hf_c (a := (0 : Int)) rfl trivial) fun hE => ?_
    exact h _ _ _ hE
  refine st_freezeT hE fun I hE => ?_
  refine st_catI hE h fun t3 I H v hE h => ?_
  refine st_store (Γ' := [.im (one : (List Int)), .im (two : (List Int)), .im (sign : Int), .im (size : Int), .im (t3 : (List Int)), .any, .any]) hE rfl (by decide : (4 : Nat) < 7) fun σ hE => ?_
  refine uSeq (uAsg (uOp ?_))
  refine st_var hE (i := 1) rfl fun v hE => ?_
  refine uLc ?_
  refine it_rng1 hE (hf_pp hr_sub (hf_var rfl) (hf_lenL (hΓ := rfl))) h fun xs4 h J hJ => ?_
  refine st_lcm (α := Int) (β := Int) (i := 6) hJ hE rfl h (fun ys5 I H v hE h => ?_) (fun k_ I H σ ρ' Θ' Qe hE h => ?_)
  rotate_left 1
  ·
    refine st_push hE (hf_c (a := (0 : Int)) rfl trivial) fun hE => ?_
    exact h _ _ _ hE
  refine st_freezeT hE fun I hE => ?_
  refine st_catI hE h fun t6 I H v hE h => ?_
  refine st_store (Γ' := [.im (one : (List Int)), .im (two : (List Int)), .im (sign : Int), .im (size : Int), .im (t3 : (List Int)), .im (t6 : (List Int)), .any]) hE rfl (by decide : (5 : Nat) < 7) fun σ hE => ?_
  refine uRet (uCallS (uCons (uLc ?_)))
  refine it_rng1 hE (hf_var rfl) h fun xs7 h J hJ => ?_
  refine st_lcm (α := Int) (β := Int) (i := 6) hJ hE rfl h (fun ys12 I H v hE h => ?_) (fun k_ I H σ ρ' Θ' Qe hE h => ?_)
  rotate_left 1
  ·
    refine st_pushm hE (hf_mm (fun _ _ => hr_add) (hf_ixLp rfl (hf_var rfl)) (hf_pm (fun _ => hr_mul) (hf_var rfl) (hf_ixLp rfl (hf_var rfl)))) h fun t11 hE h => ?_
    exact h _ _ _ hE
  refine st_freezeT hE fun I hE => ?_
  refine uNil ?_
  refine st_call ys12 hE rfl rfl h (fun e x I' H' cls d hm z => x _ H' cls d hm z.clear) fun t13 I H v hE h => ?_
  exact h _ _ _ hE.clear

theorem ok_law_times (T : Txt Pg w K mg) : FnOk Pg w K mg base (L2N.CX Pg w) 2 T.a_law_times T.d_law_times ["one", "two"] (SpM K mg 2 (fun (a : (List Int) × (List Int)) => [.im a.1, .im a.2]) (fun a => m_law_times a.1 a.2) (fun b => .im b)) := by
  refine okN T.F_law_times sc_law_times (fun vs H Q E h => h.1) fun cdv A outer s H vs Q E hr h => ?_
  obtain ⟨hl, ⟨one, two⟩, I, ρ, Θ, hE, h⟩ := h
  have hE : Env K I H (start N_law_times vs) [.im (one : (List Int)), .im (two : (List Int)), .any, .any, .any, .any] ρ Θ := st_start hE (by rw [hl]; first | rfl | done)
  refine ⟨_, (pss_cons (ps_setLc (i := 2) (own := [("k", 5)]) (g := gName 5) (by rfl) sc_law_times.nd rfl rfl (sw_true rfl rfl rfl (by decide +kernel)) (pi_range1 (by rfl) T.z_range (pa_cons (pe_op op_add (pe_callB call_len_seq (by rfl) T.z_len PySem.boot_len (pa_cons (pv 0) pa_nil)) (pe_callB call_len_seq (by rfl) T.z_len PySem.boot_len (pa_cons (pv 1) pa_nil))) pa_nil)) (blkOk_by (N := N_law_times) (sc := defScope s_law_times) (by decide +kernel)) (fun _ _ _ _ _ => pg_name (i := 5) sc_law_times.nd rfl (.inl rfl)) (fun _ _ _ _ _ => pts_nil) (fun _ _ _ _ _ => pe_int))
      (pss_cons (ps_for (passes_of rfl) rfl (pi_range1 (by rfl) T.z_range (pa_cons (pe_callB call_len_seq (by rfl) T.z_len PySem.boot_len (pa_cons (pv 0) pa_nil)) pa_nil)) (pg_name (i := 3) sc_law_times.nd rfl (.inl rfl)) (pss_one (ps_for (passes_of rfl) rfl (pi_range1 (by rfl) T.z_range (pa_cons (pe_callB call_len_seq (by rfl) T.z_len PySem.boot_len (pa_cons (pv 1) pa_nil)) pa_nil)) (pg_name (i := 4) sc_law_times.nd rfl (.inl rfl)) (pss_one (ps_asg (pe_op op_add (pe_ix ix_list (pv 2) (pe_op op_add (pv 3) (pv 4)) (fun _ _ => rfl)) (pe_op op_mulW (pe_ix ix_list (pv 0) (pv 3) (fun _ _ => rfl)) (pe_ix ix_list (pv 1) (pv 4) (fun _ _ => rfl)))) (pg_sub (pv 2) (pe_op op_add (pv 3) (pv 4)) set_list))))))
      (pss_one (ps_ret (pe_callS (ok_law_trimmed (base := base) T) (hr.mono (by decide)) (by rfl) T.g_law_trimmed T.F_law_trimmed.kp T.b_law_trimmed (fun σ => L2N.passAt (L2N.takes_of rfl rfl rfl rfl) σ) (pa_cons (pv 2) pa_nil)))))), ?_⟩
  generalize start N_law_times vs = σ at hE ⊢
  change wp (m_law_times one two) _ _ at h
  unfold m_law_times at h
  refine uSeq (uAsg (uLc ?_))
  refine it_rng1 hE (hf_pp hr_add (hf_lenL (hΓ := rfl)) (hf_lenL (hΓ := rfl))) h fun xs1 h J hJ => ?_
  refine st_lcm (α := Int) (β := Int) (i := 5) hJ hE rfl h (fun ys2 I H v hE h => ?_) (fun k_ I H σ ρ' Θ' Qe hE h => ?_)
  rotate_left 1
  ·
    refine st_push hE (hf_c (a := (0 : Int)) rfl trivial) fun hE => ?_
    exact h _ _ _ hE
  refine st_store (Γ' := [.im (one : (List Int)), .im (two : (List Int)), .own (ys2 : (List Int)), .any, .any, .any]) hE rfl (by decide : (2 : Nat) < 6) fun σ hE => ?_
  refine uSeq (uFor ?_)
  refine it_rng1 hE (hf_lenL (hΓ := rfl)) h fun xs3 h J hJ => ?_
  refine st_forS (α := Int) hJ (fun (row : (List Int)) => [.im (one : (List Int)), .im (two : (List Int)), .own (row : (List Int)), .any, .any, .any]) hE ⟨.inr rfl, .inr rfl, .inr rfl, .inl rfl, .inl rfl, .inl rfl, trivial⟩ h (fun i s I H σ v N B hE h => ?_) (fun s I H σ hE h => ?_)
  ·
    revert hE h; revert s; intro row hE h
    refine st_store (Γ' := [.im (one : (List Int)), .im (two : (List Int)), .own (row : (List Int)), .im (i : Int), .any, .any]) hE rfl (by decide : (3 : Nat) < 6) fun σ hE => ?_
    refine uFor ?_
    refine it_rng1 hE (hf_lenL (hΓ := rfl)) h fun xs4 h J hJ => ?_
    refine st_forS (α := Int) hJ (fun (row : (List Int)) => [.im (one : (List Int)), .im (two : (List Int)), .own (row : (List Int)), .im (i : Int), .any, .any]) hE ⟨.inr rfl, .inr rfl, .inr rfl, .inr rfl, .inl rfl, .inl rfl, trivial⟩ h (fun j s I H σ v N B hE h => ?_) (fun s I H σ hE h => ?_)
    ·
      revert hE h; revert s; intro row hE h
      refine st_store (Γ' := [.im (one : (List Int)), .im (two : (List Int)), .own (row : (List Int)), .im (i : Int), .im (j : Int), .any]) hE rfl (by decide : (4 : Nat) < 6) fun σ hE => ?_
      refine uAsg ?_
      refine st_pushm hE (hf_mm (fun _ _ => hr_add) (hf_ixOp rfl (hf_pp hr_add (hf_var rfl) (hf_var rfl))) (hf_mm (fun _ _ => hr_mul) (hf_ixLp rfl (hf_var rfl)) (hf_ixLp rfl (hf_var rfl)))) h fun t9 hE h => ?_
      refine st_setLp (i := 2) (Γ' := fun (row : (List Int)) => [.im (one : (List Int)), .im (two : (List Int)), .own (row : (List Int)), .im (i : Int), .im (j : Int), .any]) hE rfl (hf_pp hr_add (hf_var rfl) (hf_var rfl)) h (fun _ => rfl) fun row H hE h => ?_
      exact h _ _ _ (hE.weak (Γ' := [.im (one : (List Int)), .im (two : (List Int)), .own (row : (List Int)), .im (i : Int), .any, .any]) ⟨.inr rfl, .inr rfl, .inr rfl, .inr rfl, .inl rfl, .inl rfl, trivial⟩)
    revert hE h; revert s; intro row hE h
    exact h _ _ _ (hE.weak (Γ' := [.im (one : (List Int)), .im (two : (List Int)), .own (row : (List Int)), .any, .any, .any]) ⟨.inr rfl, .inr rfl, .inr rfl, .inl rfl, .inl rfl, .inl rfl, trivial⟩)
  revert hE h; revert s; intro row hE h
  refine uRet (uCallS (uCons ?_))
  refine st_freeze (i := 2) (Γ' := [.im (one : (List Int)), .im (two : (List Int)), .im (row : (List Int)), .any, .any, .any]) hE rfl rfl fun I hE => ?_
  refine st_var hE (i := 2) rfl fun v hE => ?_
  refine uNil ?_
  refine st_call row hE rfl rfl h (fun e x I' H' cls d hm z => x _ H' cls d hm z.clear) fun t12 I H v hE h => ?_
  exact h _ _ _ hE.clear

theorem ok_law_value (T : Txt Pg w K mg) : FnOk Pg w K mg base (L2N.CX Pg w) 1 T.a_law_value T.d_law_value ["row", "number"] (SpM K mg 2 (fun (a : (List Int) × Int) => [.im a.1, .im a.2]) (fun a => m_law_value a.1 a.2) (fun b => .im b)) := by
  refine okN T.F_law_value sc_law_value (fun vs H Q E h => h.1) fun cdv A outer s H vs Q E hr h => ?_
  obtain ⟨hl, ⟨row, number⟩, I, ρ, Θ, hE, h⟩ := h
  have hE : Env K I H (start N_law_value vs) [.im (row : (List Int)), .im (number : Int), .any, .any, .any] ρ Θ := st_start hE (by rw [hl]; first | rfl | done)
  refine ⟨_, (pss_cons (ps_set (i := 2) sc_law_value.nd rfl (.inl rfl) pe_int)
      (pss_cons (ps_set (i := 3) sc_law_value.nd rfl (.inl rfl) pe_int)
      (pss_cons (ps_for (passes_of rfl) rfl (pi_list (pv 0)) (pg_name (i := 4) sc_law_value.nd rfl (.inl rfl)) (pss_cons (ps_set (i := 2) sc_law_value.nd rfl (.inl rfl) (pe_op op_add (pv 2) (pe_op op_mulW (pv 4) (pv 3))))
      (pss_one (ps_set (i := 3) sc_law_value.nd rfl (.inl rfl) (pe_op op_mulW (pv 3) (pv 1))))))
      (pss_one (ps_ret (pv 2)))))), ?_⟩
  generalize start N_law_value vs = σ at hE ⊢
  change wp (m_law_value row number) _ _ at h
  unfold m_law_value at h
  refine uSeq ?_
  refine st_setm (Γ' := fun (total : Int) => [.im (row : (List Int)), .im (number : Int), .im (total : Int), .any, .any]) hE (hf_c (a := (0 : Int)) rfl trivial) h (fun _ => rfl) (by decide : (2 : Nat) < 5) fun total σ hE h => ?_
  refine uSeq ?_
  refine st_setm (Γ' := fun (power : Int) => [.im (row : (List Int)), .im (number : Int), .im (total : Int), .im (power : Int), .any]) hE (hf_c (a := (1 : Int)) rfl trivial) h (fun _ => rfl) (by decide : (3 : Nat) < 5) fun power σ hE h => ?_
  refine uSeq (uFor (uList ?_))
  refine st_var hE (i := 0) rfl fun v hE => ?_
  refine it_list hE fun ja hJ => ?_
  refine st_forS (α := Int) hJ (fun (s : Int × Int) => match s with | (total, power) => [.im (row : (List Int)), .im (number : Int), .im (total : Int), .im (power : Int), .any]) hE ⟨.inr rfl, .inr rfl, .inr rfl, .inr rfl, .inl rfl, trivial⟩ h (fun one s I H σ v N B hE h => ?_) (fun s I H σ hE h => ?_)
  ·
    obtain ⟨total, power⟩ := s
    refine st_store (Γ' := [.im (row : (List Int)), .im (number : Int), .im (total : Int), .im (power : Int), .im (one : Int)]) hE rfl (by decide : (4 : Nat) < 5) fun σ hE => ?_
    refine uSeq ?_
    refine st_setm (Γ' := fun (total : Int) => [.im (row : (List Int)), .im (number : Int), .im (total : Int), .im (power : Int), .im (one : Int)]) hE (hf_pm (fun _ => hr_add) (hf_var rfl) (hf_pp hr_mul (hf_var rfl) (hf_var rfl))) h (fun _ => rfl) (by decide : (2 : Nat) < 5) fun total σ hE h => ?_
    refine st_setm (Γ' := fun (power : Int) => [.im (row : (List Int)), .im (number : Int), .im (total : Int), .im (power : Int), .im (one : Int)]) hE (hf_pp hr_mul (hf_var rfl) (hf_var rfl)) h (fun _ => rfl) (by decide : (3 : Nat) < 5) fun power σ hE h => ?_
    exact h _ _ _ (hE.weak (Γ' := [.im (row : (List Int)), .im (number : Int), .im (total : Int), .im (power : Int), .any]) ⟨.inr rfl, .inr rfl, .inr rfl, .inr rfl, .inl rfl, trivial⟩)
  obtain ⟨total, power⟩ := s
  exact st_ret hE (hf_var rfl) h

theorem ok_law_whole (T : Txt Pg w K mg) : FnOk Pg w K mg base (L2N.CX Pg w) 1 T.a_law_whole T.d_law_whole ["told"] (SpM K mg 1 (fun (a : Int) => [.im a]) (fun a => m_law_whole a) (fun b => .im b)) := by
  refine okN T.F_law_whole sc_law_whole (fun vs H Q E h => h.1) fun cdv A outer s H vs Q E hr h => ?_
  obtain ⟨hl, told, I, ρ, Θ, hE, h⟩ := h
  have hE : Env K I H (start N_law_whole vs) [.im (told : Int)] ρ Θ := st_start hE (by rw [hl]; first | rfl | done)
  refine ⟨_, (pss_one (ps_ret (pe_and (pe_callB call_isi (by rfl) T.z_isinstance (by decide +kernel) (pa_cons (pv 0) (pa_cons (pe_bltn (v := .ty "int") (by rfl) T.z_int (by decide +kernel) rfl) pa_nil))) (pe_one (pe_not (pe_callB call_isi (by rfl) T.z_isinstance (by decide +kernel) (pa_cons (pv 0) (pa_cons (pe_bltn (v := .ty "bool") (by rfl) T.z_bool (by decide +kernel) rfl) pa_nil)))))))), ?_⟩
  generalize start N_law_whole vs = σ at hE ⊢
  change wp (m_law_whole told) _ _ at h
  unfold m_law_whole at h
  exact st_ret hE (hf_and_pp (hf_isI rfl (fun _ => rfl)) (hf_not_p (hf_isI rfl (fun _ => rfl)))) h

theorem ok_law_is (T : Txt Pg w K mg) : FnOk Pg w K mg base (L2N.CX Pg w) 3 T.a_law_is T.d_law_is ["told", "due"] (SpM K mg 2 (fun (a : O_Polynomial × (List Int)) => [.im a.1, .im a.2]) (fun a => m_law_is a.1 a.2) (fun b => .im b)) := by
  refine okN T.F_law_is sc_law_is (fun vs H Q E h => h.1) fun cdv A outer s H vs Q E hr h => ?_
  obtain ⟨hl, ⟨told, due⟩, I, ρ, Θ, hE, h⟩ := h
  have hE : Env K I H (start N_law_is vs) [.im (told : O_Polynomial), .im (due : (List Int)), .any, .any] ρ Θ := st_start hE (by rw [hl]; first | rfl | done)
  refine ⟨_, (pss_cons (ps_if (pt_not (pt_val (pe_callB call_isi (by rfl) T.z_isinstance (by decide +kernel) (pa_cons (pv 0) (pa_cons (pe_glob (v := .ref T.C_Polynomial) (by rfl) T.gC_Polynomial rfl) pa_nil))))) (pss_one (ps_ret pe_bl)) pss_nil)
      (pss_cons (ps_set (i := 2) sc_law_is.nd rfl (.inl rfl) (pe_fld (pv 0) rfl))
      (pss_cons (ps_if (PW.pt (pw_or (pt_not (pt_val (pe_callB call_isi (by rfl) T.z_isinstance (by decide +kernel) (pa_cons (pv 2) (pa_cons (pe_bltn (v := .ty "tuple") (by rfl) T.z_tuple (by decide +kernel) rfl) pa_nil))))) (pw_or1 (pt_cmpR op_ne (pe_callB call_len_seq (by rfl) T.z_len PySem.boot_len (pa_cons (pv 2) pa_nil)) (pe_callB call_len_seq (by rfl) T.z_len PySem.boot_len (pa_cons (pv 1) pa_nil)) (nomark _))))) (pss_one (ps_ret pe_bl)) pss_nil)
      (pss_cons (ps_for (passes_of rfl) rfl (pi_range1 (by rfl) T.z_range (pa_cons (pe_callB call_len_seq (by rfl) T.z_len PySem.boot_len (pa_cons (pv 1) pa_nil)) pa_nil)) (pg_name (i := 3) sc_law_is.nd rfl (.inl rfl)) (pss_one (ps_if (PW.pt (pw_or (pt_not (pt_val (pe_callS (ok_law_whole (base := base) T) (hr.mono (by decide)) (by rfl) T.g_law_whole T.F_law_whole.kp T.b_law_whole (fun σ => L2N.passAt (L2N.takes_of rfl rfl rfl rfl) σ) (pa_cons (pe_ix ix_tup (pv 2) (pv 3) (fun _ _ => rfl)) pa_nil)))) (pw_or1 (pt_cmpR op_ne (pe_ix ix_tup (pv 2) (pv 3) (fun _ _ => rfl)) (pe_ix ix_list (pv 1) (pv 3) (fun _ _ => rfl)) (nomark _))))) (pss_one (ps_ret pe_bl)) pss_nil)))
      (pss_one (ps_ret (pe_and (pe_callS (ok_law_whole (base := base) T) (hr.mono (by decide)) (by rfl) T.g_law_whole T.F_law_whole.kp T.b_law_whole (fun σ => L2N.passAt (L2N.takes_of rfl rfl rfl rfl) σ) (pa_cons (pe_prop (E := fun _ _ _ => False) (pv 0) T.ko_Polynomial.cls T.pp_Polynomial_degree (ok_Polynomial_degree (base := base) T) (hr.mono (by decide)) T.b_Polynomial_degree .nil (passNone noCXN) rfl) pa_nil)) (pe_one (pe_cmpR op_eq (pe_prop (E := fun _ _ _ => False) (pv 0) T.ko_Polynomial.cls T.pp_Polynomial_degree (ok_Polynomial_degree (base := base) T) (hr.mono (by decide)) T.b_Polynomial_degree .nil (passNone noCXN) rfl) (pe_op op_sub (pe_callB call_len_seq (by rfl) T.z_len PySem.boot_len (pa_cons (pv 1) pa_nil)) pe_int) (nomark _)))))))))), ?_⟩
  generalize start N_law_is vs = σ at hE ⊢
  change wp (m_law_is told due) _ _ at h
  unfold m_law_is at h
  refine uSeq ?_
  refine st_if hE (ht_not_p (ht_B (hf_isOb (hΓ := rfl) T.ko_Polynomial T.oi_Polynomial (.own _) T.kit_Polynomial_Polynomial))) h (fun h => ?_) (fun h => ?_)
  ·
    exact st_ret hE (hf_c (a := false) rfl trivial) h
  ·
    refine uNext (uSeq (uAsg (uFld ?_)))
    refine st_var hE (i := 0) rfl fun v hE => ?_
    refine st_fld hE T.ko_Polynomial T.na_Polynomial_coefficients rfl rfl (fun r => fl0 r) fun v hE => ?_
    refine st_store (Γ' := [.im (told : O_Polynomial), .im (due : (List Int)), .im (told.v.1 : (TupL Int)), .any]) hE rfl (by decide : (2 : Nat) < 4) fun σ hE => ?_
    refine uSeq ?_
    refine st_if hE (ht_or_pp (ht_not_p (ht_B (hf_isTupL rfl (fun _ => rfl)))) (ht_tt (hf_pp hr_neI (hf_lenT (hΓ := rfl)) (hf_lenL (hΓ := rfl))))) h (fun h => ?_) (fun h => ?_)
    ·
      exact st_ret hE (hf_c (a := false) rfl trivial) h
    ·
      refine uNext (uSeq (uFor ?_))
      refine it_rng1 hE (hf_lenL (hΓ := rfl)) h fun xs1 h J hJ => ?_
      refine st_for (α := Int) hJ (RetP K ρ Θ (fun b => .im b) Q) (fun (_ : Unit) => [.im (told : O_Polynomial), .im (due : (List Int)), .im (told.v.1 : (TupL Int)), .any]) hE ⟨.inr rfl, .inr rfl, .inr rfl, .inl rfl, trivial⟩ h (fun r h => h) (fun k_ s I H σ v N B hE h => ?_) (fun s I H σ hE h => ?_)
      ·
        refine st_store (Γ' := [.im (told : O_Polynomial), .im (due : (List Int)), .im (told.v.1 : (TupL Int)), .im (k_ : Int)]) hE rfl (by decide : (3 : Nat) < 4) fun σ hE => ?_
        refine uIf ?_
        refine st_tj hE (fun (s : Unit) => [.im (told : O_Polynomial), .im (due : (List Int)), .im (told.v.1 : (TupL Int)), .im (k_ : Int)]) h (fun h => ?_) (fun b7 s I H hE h => ?_)
        ·
          refine uOr (uNot (uB (uCallS (uCons ?_))))
          refine st_pushm hE (hf_ixTp rfl (hf_var rfl)) h fun t2 hE h => ?_
          refine uNil ?_
          refine st_call t2 hE rfl rfl h (fun e x I' H' cls d hm z => x _ H' cls d hm z.clear) fun t3 I H v hE h => ?_
          refine st_vb hE fun hE => ?_
          refine st_ite h (fun h => ?_) (fun h => ?_)
          ·
            exact h _ _ hE
          ·
            refine st_htm hE (ht_tt (hf_mm (fun _ _ => hr_neI) (hf_ixTp rfl (hf_var rfl)) (hf_ixLp rfl (hf_var rfl)))) h fun b6 h => ?_
            exact h _ _ hE
        refine st_ite h (fun h => ?_) (fun h => ?_)
        ·
          exact st_ret hE (hf_c (a := false) rfl trivial) h
        ·
          refine uNext ?_
          exact h _ _ _ (hE.weak (Γ' := [.im (told : O_Polynomial), .im (due : (List Int)), .im (told.v.1 : (TupL Int)), .any]) ⟨.inr rfl, .inr rfl, .inr rfl, .inl rfl, trivial⟩)
      refine uRet (uAndV (uCallS (uCons (uProp ?_))))
      refine st_var hE (i := 0) rfl fun v hE => ?_
      refine st_prop (m := fun x => m_Polynomial_degree x) hE T.ko_Polynomial h fun t9 I H v hE h => ?_
      refine uNil ?_
      refine st_call t9 hE rfl rfl h (fun e x I' H' cls d hm z => x _ H' cls d hm z.clear) fun t10 I H v hE h => ?_
      refine st_vb hE fun hE => ?_
      refine st_ite h (fun h => ?_) (fun h => ?_)
      ·
        refine uOp (uProp ?_)
        refine st_var hE (i := 0) rfl fun v hE => ?_
        refine st_prop (m := fun x => m_Polynomial_degree x) hE T.ko_Polynomial h fun t11 I H v hE h => ?_
        refine st_push hE (hf_pp hr_sub (hf_lenL (hΓ := rfl)) (hf_c (a := (1 : Int)) rfl trivial)) fun hE => ?_
        refine st_op2p hE hr_eqI fun v hE => ?_
        exact h _ _ _ hE.clear
      ·
        exact h _ _ _ (hE.pushS (α := Bool) (a := false) trivial).clear

theorem ok_law_given_refused (T : Txt Pg w K mg) : FnOk Pg w K mg base (L2N.CX Pg w) 6 T.a_law_given_refused T.d_law_given_refused ["row"] (SpM K mg 1 (fun (a : (List Int)) => [.im a]) (fun a => m_law_given_refused a) (fun b => .im b)) := by
  refine okN T.F_law_given_refused sc_law_given_refused (fun vs H Q E h => h.1) fun cdv A outer s H vs Q E hr h => ?_
  obtain ⟨hl, row, I, ρ, Θ, hE, h⟩ := h
  have hE : Env K I H (start N_law_given_refused vs) [.im (row : (List Int)), .any] ρ Θ := st_start hE (by rw [hl]; first | rfl | done)
  refine ⟨_, (pss_cons (ps_tryM rfl rfl sc_law_given_refused.nd (fun W pn xe tk hp => (pss_one (ps_expr (pe_makeS T.mk_Polynomial___init (ok_Polynomial___init (base := base) T) (hr.mono (by decide)) (by rfl) T.gC_Polynomial T.b_Polynomial___init (fun σ => L2N.passAt tk σ) (pa_cons (pv 0) pa_nil))))) (.as (i := 1) rfl rfl ⟨rfl, by decide, .inl T.gC_TooMany⟩ (fun a oe cls d pn hz hf => (pss_one (ps_ret (pe_and (pe_callB (call_isX hz.zc hf) (by rfl) T.z_isinstance (by decide +kernel) (pa_cons (pv 1) (pa_cons (pe_glob (v := .ref T.C_WordError) (by rfl) T.gC_WordError rfl) pa_nil))) (pe_and (pe_not (pe_callB (call_isX hz.zc hf) (by rfl) T.z_isinstance (by decide +kernel) (pa_cons (pv 1) (pa_cons (pe_glob (v := .ref T.C_OutOfBounds) (by rfl) T.gC_OutOfBounds rfl) pa_nil)))) (pe_one (pe_cmpR op_eq (pe_xf (T.x_TooMany (base := base)).xf (T.x_TooMany (base := base)).no hz.zc hf (pv 1)) pe_int (nomark _)))))))) (.no ⟨rfl, by decide, .inl T.gC_WordError⟩ (fun a oe cls d pn hz hf => (pss_one (ps_ret pe_bl))) .nil)))
      (pss_one (ps_ret pe_bl))), ?_⟩
  generalize start N_law_given_refused vs = σ at hE ⊢
  change wp (m_law_given_refused row) _ _ at h
  unfold m_law_given_refused at h
  refine uSeq ?_
  refine st_tryM (mg := mg) [.im (row : (List Int)), .any] (RetP K ρ Θ (fun b => .im b) Q) (fun (_ : Unit) => [.im (row : (List Int)), .any]) hE h (fun r h => h) (fun s I H σ hE h => ?_) (fun xe1 h σ => ?_) (fun hC1 h => ?_)
  rotate_left 1
  ·
    obtain ⟨b1_0, hx, h⟩ := hx_TooMany T h
    refine wg_as (i := 1) hx (by decide : (1 : Nat) < 2) (fun hb I H σ xa1 xd1 xc1 xm1 hE => ?_) (fun hb => ?_)
    ·
      rw [hb, if_pos rfl] at h
      replace hE : Env K _ _ _ [.im (row : (List Int)), .im ((⟨xa1, xd1, xe1⟩ : ExV) : ExV)] _ _ := hE
      exact st_retm hE (hf_and_m (hf_isX (hΓ := rfl) (fun _ h => h) (is_WordError_ok T xm1)) (hf_and_m (hf_not_m (hf_isX (hΓ := rfl) (fun _ h => h) (is_OutOfBounds_ok T xm1))) (hf_mp (fun _ => hr_eqI) (hf_fldI (hΓ := rfl) xm1 (T.x_TooMany (base := base)).gC) (hf_c (a := (100 : Int)) rfl trivial)))) h fun t9 h => h
    ·
      rw [hb, if_neg (by decide)] at h
      obtain ⟨b1_1, hx, h⟩ := hx_WordError T h
      refine wg_no hx (fun hb I H xa1 xd1 xc1 xm1 hE => ?_) (fun hb => ?_)
      ·
        rw [hb, if_pos rfl] at h
        replace hE : Env K _ _ _ [.im (row : (List Int)), .any] _ _ := hE
        exact st_ret hE (hf_c (a := false) rfl trivial) h
      ·
        rw [hb, if_neg (by decide)] at h
        exact h.elim
  ·
    refine uDrop (uMakeS (uCons ?_))
    refine st_var hE (i := 0) rfl fun v hE => ?_
    refine uNil ?_
    refine st_make row hE rfl rfl T.ko_Polynomial.at_ h (fun e x I' H' cls d hm z => hC1 e x _ _ H' cls d hm (Env.weak (Γ' := [.im (row : (List Int)), .any]) z ⟨.inr rfl, .inl rfl, trivial⟩)) fun t2 I H v hE h => ?_
    have hE := hE.pop
    exact h _ _ _ (hE.weak (Γ' := [.im (row : (List Int)), .any]) ⟨.inr rfl, .inl rfl, trivial⟩)
  exact st_ret hE (hf_c (a := false) rfl trivial) h

theorem ok_law_product_refused (T : Txt Pg w K mg) : FnOk Pg w K mg base (L2N.CX Pg w) 7 T.a_law_product_refused T.d_law_product_refused ["one", "two"] (SpM K mg 2 (fun (a : O_Polynomial × O_Polynomial) => [.im a.1, .im a.2]) (fun a => m_law_product_refused a.1 a.2) (fun b => .im b)) := by
  refine okN T.F_law_product_refused sc_law_product_refused (fun vs H Q E h => h.1) fun cdv A outer s H vs Q E hr h => ?_
  obtain ⟨hl, ⟨one, two⟩, I, ρ, Θ, hE, h⟩ := h
  have hE : Env K I H (start N_law_product_refused vs) [.im (one : O_Polynomial), .im (two : O_Polynomial), .any, .any] ρ Θ := st_start hE (by rw [hl]; first | rfl | done)
  refine ⟨_, (pss_cons (ps_tryM rfl rfl sc_law_product_refused.nd (fun W pn xe tk hp => (pss_one (ps_set (i := 3) sc_law_product_refused.nd rfl (.inl rfl) (pe_binS (pv 0) (pv 1) T.bo_Polynomial___mul (ok_Polynomial___mul (base := base) T) (hr.mono (by decide)) T.b_Polynomial___mul (fun σ => L2N.passAt tk σ))))) (.as (i := 2) rfl rfl ⟨rfl, by decide, .inl T.gC_TooMany⟩ (fun a oe cls d pn hz hf => (pss_one (ps_ret (pe_and (pe_callB (call_isX hz.zc hf) (by rfl) T.z_isinstance (by decide +kernel) (pa_cons (pv 2) (pa_cons (pe_glob (v := .ref T.C_WordError) (by rfl) T.gC_WordError rfl) pa_nil))) (pe_and (pe_not (pe_callB (call_isX hz.zc hf) (by rfl) T.z_isinstance (by decide +kernel) (pa_cons (pv 2) (pa_cons (pe_glob (v := .ref T.C_OutOfBounds) (by rfl) T.gC_OutOfBounds rfl) pa_nil)))) (pe_one (pe_cmpR op_eq (pe_xf (T.x_TooMany (base := base)).xf (T.x_TooMany (base := base)).no hz.zc hf (pv 2)) pe_int (nomark _)))))))) (.no ⟨rfl, by decide, .inl T.gC_WordError⟩ (fun a oe cls d pn hz hf => (pss_one (ps_ret pe_bl))) .nil)))
      (pss_one (ps_ret (pe_and (pe_cmpR op_isN (pv 3) pe_non (nomark _)) (pe_one (pe_cmpR op_isN (pv 0) pe_non (nomark _))))))), ?_⟩
  generalize start N_law_product_refused vs = σ at hE ⊢
  change wp (m_law_product_refused one two) _ _ at h
  unfold m_law_product_refused at h
  refine uSeq ?_
  refine st_tryM (mg := mg) [.im (one : O_Polynomial), .im (two : O_Polynomial), .any, .any] (RetP K ρ Θ (fun b => .im b) Q) (fun (_ : Unit) => [.im (one : O_Polynomial), .im (two : O_Polynomial), .any, .any]) hE h (fun r h => h) (fun s I H σ hE h => ?_) (fun xe1 h σ => ?_) (fun hC1 h => ?_)
  rotate_left 1
  ·
    obtain ⟨b1_0, hx, h⟩ := hx_TooMany T h
    refine wg_as (i := 2) hx (by decide : (2 : Nat) < 4) (fun hb I H σ xa1 xd1 xc1 xm1 hE => ?_) (fun hb => ?_)
    ·
      rw [hb, if_pos rfl] at h
      replace hE : Env K _ _ _ [.im (one : O_Polynomial), .im (two : O_Polynomial), .im ((⟨xa1, xd1, xe1⟩ : ExV) : ExV), .any] _ _ := hE
      exact st_retm hE (hf_and_m (hf_isX (hΓ := rfl) (fun _ h => h) (is_WordError_ok T xm1)) (hf_and_m (hf_not_m (hf_isX (hΓ := rfl) (fun _ h => h) (is_OutOfBounds_ok T xm1))) (hf_mp (fun _ => hr_eqI) (hf_fldI (hΓ := rfl) xm1 (T.x_TooMany (base := base)).gC) (hf_c (a := (100 : Int)) rfl trivial)))) h fun t9 h => h
    ·
      rw [hb, if_neg (by decide)] at h
      obtain ⟨b1_1, hx, h⟩ := hx_WordError T h
      refine wg_no hx (fun hb I H xa1 xd1 xc1 xm1 hE => ?_) (fun hb => ?_)
      ·
        rw [hb, if_pos rfl] at h
        replace hE : Env K _ _ _ [.im (one : O_Polynomial), .im (two : O_Polynomial), .any, .any] _ _ := hE
        exact st_ret hE (hf_c (a := false) rfl trivial) h
      ·
        rw [hb, if_neg (by decide)] at h
        exact h.elim
  ·
    refine uAsg (uBinS ?_)
    refine st_var hE (i := 0) rfl fun v hE => ?_
    refine st_var hE (i := 1) rfl fun v hE => ?_
    refine st_smG hE T.ko_Polynomial ?_
    refine st_call (one, two) hE rfl rfl h (fun e x I' H' cls d hm z => hC1 e x _ _ H' cls d hm (Env.weak (Γ' := [.im (one : O_Polynomial), .im (two : O_Polynomial), .any, .any]) z ⟨.inr rfl, .inr rfl, .inl rfl, .inl rfl, trivial⟩)) fun t2 I H v hE h => ?_
    refine st_store (Γ' := [.im (one : O_Polynomial), .im (two : O_Polynomial), .any, .im (t2 : O_Polynomial)]) hE rfl (by decide : (3 : Nat) < 4) fun σ hE => ?_
    exact h _ _ _ (hE.weak (Γ' := [.im (one : O_Polynomial), .im (two : O_Polynomial), .any, .any]) ⟨.inr rfl, .inr rfl, .inl rfl, .inl rfl, trivial⟩)
  exact h.elim

theorem ok_law_power_refused (T : Txt Pg w K mg) : FnOk Pg w K mg base (L2N.CX Pg w) 7 T.a_law_power_refused T.d_law_power_refused ["exponent"] (SpM K mg 1 (fun (a : Int) => [.im a]) (fun a => m_law_power_refused a) (fun b => .im b)) := by
  refine okN T.F_law_power_refused sc_law_power_refused (fun vs H Q E h => h.1) fun cdv A outer s H vs Q E hr h => ?_
  obtain ⟨hl, exponent, I, ρ, Θ, hE, h⟩ := h
  have hE : Env K I H (start N_law_power_refused vs) [.im (exponent : Int), .any] ρ Θ := st_start hE (by rw [hl]; first | rfl | done)
  refine ⟨_, (pss_cons (ps_tryM rfl rfl sc_law_power_refused.nd (fun W pn xe tk hp => (pss_one (ps_expr (pe_smethS (pe_glob (v := .ref T.C_Polynomial) (by rfl) T.gC_Polynomial rfl) T.sm_Polynomial_power (ok_Polynomial_power (base := base) T) (hr.mono (by decide)) T.b_Polynomial_power (fun σ => L2N.passAt tk σ) (pa_cons (pv 0) pa_nil))))) (.as (i := 1) rfl rfl ⟨rfl, by decide, .inl T.gC_OutOfBounds⟩ (fun a oe cls d pn hz hf => (pss_one (ps_ret (pe_and (pe_callB (call_isX hz.zc hf) (by rfl) T.z_isinstance (by decide +kernel) (pa_cons (pv 1) (pa_cons (pe_glob (v := .ref T.C_WordError) (by rfl) T.gC_WordError rfl) pa_nil))) (pe_and (pe_not (pe_callB (call_isX hz.zc hf) (by rfl) T.z_isinstance (by decide +kernel) (pa_cons (pv 1) (pa_cons (pe_glob (v := .ref T.C_TooMany) (by rfl) T.gC_TooMany rfl) pa_nil)))) (pe_one (pe_cmpR op_eq (pe_xf (T.x_OutOfBounds (base := base)).xf (T.x_OutOfBounds (base := base)).no hz.zc hf (pv 1)) (pv 0) (nomark _)))))))) (.no ⟨rfl, by decide, .inl T.gC_WordError⟩ (fun a oe cls d pn hz hf => (pss_one (ps_ret pe_bl))) .nil)))
      (pss_one (ps_ret pe_bl))), ?_⟩
  generalize start N_law_power_refused vs = σ at hE ⊢
  change wp (m_law_power_refused exponent) _ _ at h
  unfold m_law_power_refused at h
  refine uSeq ?_
  refine st_tryM (mg := mg) [.im (exponent : Int), .any] (RetP K ρ Θ (fun b => .im b) Q) (fun (_ : Unit) => [.im (exponent : Int), .any]) hE h (fun r h => h) (fun s I H σ hE h => ?_) (fun xe1 h σ => ?_) (fun hC1 h => ?_)
  rotate_left 1
  ·
    obtain ⟨b1_0, hx, h⟩ := hx_OutOfBounds T h
    refine wg_as (i := 1) hx (by decide : (1 : Nat) < 2) (fun hb I H σ xa1 xd1 xc1 xm1 hE => ?_) (fun hb => ?_)
    ·
      rw [hb, if_pos rfl] at h
      replace hE : Env K _ _ _ [.im (exponent : Int), .im ((⟨xa1, xd1, xe1⟩ : ExV) : ExV)] _ _ := hE
      exact st_retm hE (hf_and_m (hf_isX (hΓ := rfl) (fun _ h => h) (is_WordError_ok T xm1)) (hf_and_m (hf_not_m (hf_isX (hΓ := rfl) (fun _ h => h) (is_TooMany_ok T xm1))) (hf_mp (fun _ => hr_eqI) (hf_fldI (hΓ := rfl) xm1 (T.x_OutOfBounds (base := base)).gC) (hf_var rfl)))) h fun t9 h => h
    ·
      rw [hb, if_neg (by decide)] at h
      obtain ⟨b1_1, hx, h⟩ := hx_WordError T h
      refine wg_no hx (fun hb I H xa1 xd1 xc1 xm1 hE => ?_) (fun hb => ?_)
      ·
        rw [hb, if_pos rfl] at h
        replace hE : Env K _ _ _ [.im (exponent : Int), .any] _ _ := hE
        exact st_ret hE (hf_c (a := false) rfl trivial) h
      ·
        rw [hb, if_neg (by decide)] at h
        exact h.elim
  ·
    refine uDrop (uSMethS ?_)
    refine ⟨rfl, ?_⟩
    refine uCons ?_
    refine st_push hE (hf_var rfl) fun hE => ?_
    refine uNil ?_
    refine st_call exponent hE rfl rfl h (fun e x I' H' cls d hm z => hC1 e x _ _ H' cls d hm (Env.weak (Γ' := [.im (exponent : Int), .any]) z ⟨.inr rfl, .inl rfl, trivial⟩)) fun t2 I H v hE h => ?_
    have hE := hE.pop
    exact h _ _ _ (hE.weak (Γ' := [.im (exponent : Int), .any]) ⟨.inr rfl, .inl rfl, trivial⟩)
  exact st_ret hE (hf_c (a := false) rfl trivial) h

theorem ok_law_value_refused (T : Txt Pg w K mg) : FnOk Pg w K mg base (L2N.CX Pg w) 5 T.a_law_value_refused T.d_law_value_refused ["told", "number"] (SpM K mg 2 (fun (a : O_Polynomial × Int) => [.im a.1, .im a.2]) (fun a => m_law_value_refused a.1 a.2) (fun b => .im b)) := by
  refine okN T.F_law_value_refused sc_law_value_refused (fun vs H Q E h => h.1) fun cdv A outer s H vs Q E hr h => ?_
  obtain ⟨hl, ⟨told, number⟩, I, ρ, Θ, hE, h⟩ := h
  have hE : Env K I H (start N_law_value_refused vs) [.im (told : O_Polynomial), .im (number : Int), .any] ρ Θ := st_start hE (by rw [hl]; first | rfl | done)
  refine ⟨_, (pss_cons (ps_tryM rfl rfl sc_law_value_refused.nd (fun W pn xe tk hp => (pss_one (ps_expr (pe_methS' (pv 0) T.ko_Polynomial.cls T.me_Polynomial_value_at (ok_Polynomial_value_at (base := base) T) (hr.mono (by decide)) T.b_Polynomial_value_at (fun σ => L2N.passAt tk σ) (pa_cons (pv 1) pa_nil))))) (.as (i := 2) rfl rfl ⟨rfl, by decide, .inl T.gC_OutOfBounds⟩ (fun a oe cls d pn hz hf => (pss_one (ps_ret (pe_and (pe_callB (call_isX hz.zc hf) (by rfl) T.z_isinstance (by decide +kernel) (pa_cons (pv 2) (pa_cons (pe_glob (v := .ref T.C_WordError) (by rfl) T.gC_WordError rfl) pa_nil))) (pe_and (pe_not (pe_callB (call_isX hz.zc hf) (by rfl) T.z_isinstance (by decide +kernel) (pa_cons (pv 2) (pa_cons (pe_glob (v := .ref T.C_TooMany) (by rfl) T.gC_TooMany rfl) pa_nil)))) (pe_one (pe_cmpR op_eq (pe_xf (T.x_OutOfBounds (base := base)).xf (T.x_OutOfBounds (base := base)).no hz.zc hf (pv 2)) (pv 1) (nomark _)))))))) (.no ⟨rfl, by decide, .inl T.gC_WordError⟩ (fun a oe cls d pn hz hf => (pss_one (ps_ret pe_bl))) .nil)))
      (pss_one (ps_ret pe_bl))), ?_⟩
  generalize start N_law_value_refused vs = σ at hE ⊢
  change wp (m_law_value_refused told number) _ _ at h
  unfold m_law_value_refused at h
  refine uSeq ?_
  refine st_tryM (mg := mg) [.im (told : O_Polynomial), .im (number : Int), .any] (RetP K ρ Θ (fun b => .im b) Q) (fun (_ : Unit) => [.im (told : O_Polynomial), .im (number : Int), .any]) hE h (fun r h => h) (fun s I H σ hE h => ?_) (fun xe1 h σ => ?_) (fun hC1 h => ?_)
  rotate_left 1
  ·
    obtain ⟨b1_0, hx, h⟩ := hx_OutOfBounds T h
    refine wg_as (i := 2) hx (by decide : (2 : Nat) < 3) (fun hb I H σ xa1 xd1 xc1 xm1 hE => ?_) (fun hb => ?_)
    ·
      rw [hb, if_pos rfl] at h
      replace hE : Env K _ _ _ [.im (told : O_Polynomial), .im (number : Int), .im ((⟨xa1, xd1, xe1⟩ : ExV) : ExV)] _ _ := hE
      exact st_retm hE (hf_and_m (hf_isX (hΓ := rfl) (fun _ h => h) (is_WordError_ok T xm1)) (hf_and_m (hf_not_m (hf_isX (hΓ := rfl) (fun _ h => h) (is_TooMany_ok T xm1))) (hf_mp (fun _ => hr_eqI) (hf_fldI (hΓ := rfl) xm1 (T.x_OutOfBounds (base := base)).gC) (hf_var rfl)))) h fun t9 h => h
    ·
      rw [hb, if_neg (by decide)] at h
      obtain ⟨b1_1, hx, h⟩ := hx_WordError T h
      refine wg_no hx (fun hb I H xa1 xd1 xc1 xm1 hE => ?_) (fun hb => ?_)
      ·
        rw [hb, if_pos rfl] at h
        replace hE : Env K _ _ _ [.im (told : O_Polynomial), .im (number : Int), .any] _ _ := hE
        exact st_ret hE (hf_c (a := false) rfl trivial) h
      ·
        rw [hb, if_neg (by decide)] at h
        exact h.elim
  ·
    refine uDrop (uMethS ?_)
    refine st_var hE (i := 0) rfl fun v hE => ?_
    refine st_methA hE T.ko_Polynomial (by decide) ?_
    refine uCons ?_
    refine st_push hE (hf_var rfl) fun hE => ?_
    refine uNil ?_
    refine st_call (told, number) hE rfl rfl h (fun e x I' H' cls d hm z => hC1 e x _ _ H' cls d hm (Env.weak (Γ' := [.im (told : O_Polynomial), .im (number : Int), .any]) z ⟨.inr rfl, .inr rfl, .inl rfl, trivial⟩)) fun t2 I H v hE h => ?_
    have hE := hE.pop
    exact h _ _ _ (hE.weak (Γ' := [.im (told : O_Polynomial), .im (number : Int), .any]) ⟨.inr rfl, .inr rfl, .inl rfl, trivial⟩)
  exact st_ret hE (hf_c (a := false) rfl trivial) h

theorem ok_law_sums (T : Txt Pg w K mg) : FnOk Pg w K mg base (L2N.CX Pg w) 7 T.a_law_sums T.d_law_sums ["one", "left", "two", "right"] (SpM K mg 4 (fun (a : O_Polynomial × (List Int) × O_Polynomial × (List Int)) => [.im a.1, .im a.2.1, .im a.2.2.1, .im a.2.2.2]) (fun a => m_law_sums a.1 a.2.1 a.2.2.1 a.2.2.2) (fun b => .im b)) := by
  refine okN T.F_law_sums sc_law_sums (fun vs H Q E h => h.1) fun cdv A outer s H vs Q E hr h => ?_
  obtain ⟨hl, ⟨one, left, two, right⟩, I, ρ, Θ, hE, h⟩ := h
  have hE : Env K I H (start N_law_sums vs) [.im (one : O_Polynomial), .im (left : (List Int)), .im (two : O_Polynomial), .im (right : (List Int))] ρ Θ := st_start hE (by rw [hl]; first | rfl | done)
  refine ⟨_, (pss_cons (ps_if (pt_not (pt_val (pe_callS (ok_law_is (base := base) T) (hr.mono (by decide)) (by rfl) T.g_law_is T.F_law_is.kp T.b_law_is (fun σ => L2N.passAt (L2N.takes_of rfl rfl rfl rfl) σ) (pa_cons (pe_binS (pv 0) (pv 2) T.bo_Polynomial___add (ok_Polynomial___add (base := base) T) (hr.mono (by decide)) T.b_Polynomial___add (fun σ => L2N.passAt (L2N.takes_of rfl rfl rfl rfl) σ)) (pa_cons (pe_callS (ok_law_plus (base := base) T) (hr.mono (by decide)) (by rfl) T.g_law_plus T.F_law_plus.kp T.b_law_plus (fun σ => L2N.passAt (L2N.takes_of rfl rfl rfl rfl) σ) (pa_cons (pv 1) (pa_cons (pv 3) (pa_cons pe_int pa_nil)))) pa_nil))))) (pss_one (ps_ret pe_bl)) pss_nil)
      (pss_cons (ps_if (pt_not (pt_val (pe_callS (ok_law_is (base := base) T) (hr.mono (by decide)) (by rfl) T.g_law_is T.F_law_is.kp T.b_law_is (fun σ => L2N.passAt (L2N.takes_of rfl rfl rfl rfl) σ) (pa_cons (pe_binS (pv 0) (pv 2) T.bo_Polynomial___sub (ok_Polynomial___sub (base := base) T) (hr.mono (by decide)) T.b_Polynomial___sub (fun σ => L2N.passAt (L2N.takes_of rfl rfl rfl rfl) σ)) (pa_cons (pe_callS (ok_law_plus (base := base) T) (hr.mono (by decide)) (by rfl) T.g_law_plus T.F_law_plus.kp T.b_law_plus (fun σ => L2N.passAt (L2N.takes_of rfl rfl rfl rfl) σ) (pa_cons (pv 1) (pa_cons (pv 3) (pa_cons (pe_op op_sub pe_int pe_int) pa_nil)))) pa_nil))))) (pss_one (ps_ret pe_bl)) pss_nil)
      (pss_cons (ps_if (pt_not (pt_val (pe_callS (ok_law_is (base := base) T) (hr.mono (by decide)) (by rfl) T.g_law_is T.F_law_is.kp T.b_law_is (fun σ => L2N.passAt (L2N.takes_of rfl rfl rfl rfl) σ) (pa_cons (pe_binS (pv 2) (pv 0) T.bo_Polynomial___sub (ok_Polynomial___sub (base := base) T) (hr.mono (by decide)) T.b_Polynomial___sub (fun σ => L2N.passAt (L2N.takes_of rfl rfl rfl rfl) σ)) (pa_cons (pe_callS (ok_law_plus (base := base) T) (hr.mono (by decide)) (by rfl) T.g_law_plus T.F_law_plus.kp T.b_law_plus (fun σ => L2N.passAt (L2N.takes_of rfl rfl rfl rfl) σ) (pa_cons (pv 3) (pa_cons (pv 1) (pa_cons (pe_op op_sub pe_int pe_int) pa_nil)))) pa_nil))))) (pss_one (ps_ret pe_bl)) pss_nil)
      (pss_cons (ps_if (pt_not (pt_val (pe_callS (ok_law_is (base := base) T) (hr.mono (by decide)) (by rfl) T.g_law_is T.F_law_is.kp T.b_law_is (fun σ => L2N.passAt (L2N.takes_of rfl rfl rfl rfl) σ) (pa_cons (pe_binS (pv 0) (pv 2) T.bo_Polynomial___mul (ok_Polynomial___mul (base := base) T) (hr.mono (by decide)) T.b_Polynomial___mul (fun σ => L2N.passAt (L2N.takes_of rfl rfl rfl rfl) σ)) (pa_cons (pe_callS (ok_law_times (base := base) T) (hr.mono (by decide)) (by rfl) T.g_law_times T.F_law_times.kp T.b_law_times (fun σ => L2N.passAt (L2N.takes_of rfl rfl rfl rfl) σ) (pa_cons (pv 1) (pa_cons (pv 3) pa_nil))) pa_nil))))) (pss_one (ps_ret pe_bl)) pss_nil)
      (pss_one (ps_ret (pe_and (pe_callS (ok_law_is (base := base) T) (hr.mono (by decide)) (by rfl) T.g_law_is T.F_law_is.kp T.b_law_is (fun σ => L2N.passAt (L2N.takes_of rfl rfl rfl rfl) σ) (pa_cons (pv 0) (pa_cons (pv 1) pa_nil))) (pe_one (pe_callS (ok_law_is (base := base) T) (hr.mono (by decide)) (by rfl) T.g_law_is T.F_law_is.kp T.b_law_is (fun σ => L2N.passAt (L2N.takes_of rfl rfl rfl rfl) σ) (pa_cons (pv 2) (pa_cons (pv 3) pa_nil))))))))))), ?_⟩
  generalize start N_law_sums vs = σ at hE ⊢
  change wp (m_law_sums one left two right) _ _ at h
  unfold m_law_sums at h
  refine uSeq (uIf (uNot (uB (uCallS (uCons (uBinS ?_))))))
  refine st_var hE (i := 0) rfl fun v hE => ?_
  refine st_var hE (i := 2) rfl fun v hE => ?_
  refine st_smG hE T.ko_Polynomial ?_
  refine st_call (one, two) hE rfl rfl h (fun e x I' H' cls d hm z => x _ H' cls d hm z.clear) fun t1 I H v hE h => ?_
  refine uCons (uCallS (uCons ?_))
  refine st_var hE (i := 1) rfl fun v hE => ?_
  refine uCons ?_
  refine st_var hE (i := 3) rfl fun v hE => ?_
  refine uCons ?_
  refine st_push hE (hf_c (a := (1 : Int)) rfl trivial) fun hE => ?_
  refine uNil ?_
  refine st_call (left, right, (1 : Int)) hE rfl rfl h (fun e x I' H' cls d hm z => x _ H' cls d hm z.clear.nip) fun t2 I H v hE h => ?_
  refine uNil ?_
  refine st_call (t1, t2) hE rfl rfl h (fun e x I' H' cls d hm z => x _ H' cls d hm z.clear) fun t3 I H v hE h => ?_
  refine st_vb hE fun hE => ?_
  refine st_ite h (fun h => ?_) (fun h => ?_)
  ·
    exact st_ret hE (hf_c (a := false) rfl trivial) h
  ·
    refine uNext (uSeq (uIf (uNot (uB (uCallS (uCons (uBinS ?_)))))))
    refine st_var hE (i := 0) rfl fun v hE => ?_
    refine st_var hE (i := 2) rfl fun v hE => ?_
    refine st_smG hE T.ko_Polynomial ?_
    refine st_call (one, two) hE rfl rfl h (fun e x I' H' cls d hm z => x _ H' cls d hm z.clear) fun t4 I H v hE h => ?_
    refine uCons (uCallS (uCons ?_))
    refine st_var hE (i := 1) rfl fun v hE => ?_
    refine uCons ?_
    refine st_var hE (i := 3) rfl fun v hE => ?_
    refine uCons ?_
    refine st_push hE (hf_is (m := (.ok ((0 : Int) - (1 : Int)))) (m' := .ok (-1 : Int)) (hf_pp hr_sub (hf_c (a := (0 : Int)) rfl trivial) (hf_c (a := (1 : Int)) rfl trivial)) (by decide +kernel)) fun hE => ?_
    refine uNil ?_
    refine st_call (left, right, (-1 : Int)) hE rfl rfl h (fun e x I' H' cls d hm z => x _ H' cls d hm z.clear.nip) fun t5 I H v hE h => ?_
    refine uNil ?_
    refine st_call (t4, t5) hE rfl rfl h (fun e x I' H' cls d hm z => x _ H' cls d hm z.clear) fun t6 I H v hE h => ?_
    refine st_vb hE fun hE => ?_
    refine st_ite h (fun h => ?_) (fun h => ?_)
    ·
      exact st_ret hE (hf_c (a := false) rfl trivial) h
    ·
      refine uNext (uSeq (uIf (uNot (uB (uCallS (uCons (uBinS ?_)))))))
      refine st_var hE (i := 2) rfl fun v hE => ?_
      refine st_var hE (i := 0) rfl fun v hE => ?_
      refine st_smG hE T.ko_Polynomial ?_
      refine st_call (two, one) hE rfl rfl h (fun e x I' H' cls d hm z => x _ H' cls d hm z.clear) fun t7 I H v hE h => ?_
      refine uCons (uCallS (uCons ?_))
      refine st_var hE (i := 3) rfl fun v hE => ?_
      refine uCons ?_
      refine st_var hE (i := 1) rfl fun v hE => ?_
      refine uCons ?_
      refine st_push hE (hf_is (m := (.ok ((0 : Int) - (1 : Int)))) (m' := .ok (-1 : Int)) (hf_pp hr_sub (hf_c (a := (0 : Int)) rfl trivial) (hf_c (a := (1 : Int)) rfl trivial)) (by decide +kernel)) fun hE => ?_
      refine uNil ?_
      refine st_call (right, left, (-1 : Int)) hE rfl rfl h (fun e x I' H' cls d hm z => x _ H' cls d hm z.clear.nip) fun t8 I H v hE h => ?_
      refine uNil ?_
      refine st_call (t7, t8) hE rfl rfl h (fun e x I' H' cls d hm z => x _ H' cls d hm z.clear) fun t9 I H v hE h => ?_
      refine st_vb hE fun hE => ?_
      refine st_ite h (fun h => ?_) (fun h => ?_)
      ·
        exact st_ret hE (hf_c (a := false) rfl trivial) h
      ·
        refine uNext (uSeq (uIf (uNot (uB (uCallS (uCons (uBinS ?_)))))))
        refine st_var hE (i := 0) rfl fun v hE => ?_
        refine st_var hE (i := 2) rfl fun v hE => ?_
        refine st_smG hE T.ko_Polynomial ?_
        refine st_call (one, two) hE rfl rfl h (fun e x I' H' cls d hm z => x _ H' cls d hm z.clear) fun t10 I H v hE h => ?_
        refine uCons (uCallS (uCons ?_))
        refine st_var hE (i := 1) rfl fun v hE => ?_
        refine uCons ?_
        refine st_var hE (i := 3) rfl fun v hE => ?_
        refine uNil ?_
        refine st_call (left, right) hE rfl rfl h (fun e x I' H' cls d hm z => x _ H' cls d hm z.clear.nip) fun t11 I H v hE h => ?_
        refine uNil ?_
        refine st_call (t10, t11) hE rfl rfl h (fun e x I' H' cls d hm z => x _ H' cls d hm z.clear) fun t12 I H v hE h => ?_
        refine st_vb hE fun hE => ?_
        refine st_ite h (fun h => ?_) (fun h => ?_)
        ·
          exact st_ret hE (hf_c (a := false) rfl trivial) h
        ·
          refine uNext (uRet (uAndV (uCallS (uCons ?_))))
          refine st_var hE (i := 0) rfl fun v hE => ?_
          refine uCons ?_
          refine st_var hE (i := 1) rfl fun v hE => ?_
          refine uNil ?_
          refine st_call (one, left) hE rfl rfl h (fun e x I' H' cls d hm z => x _ H' cls d hm z.clear) fun t13 I H v hE h => ?_
          refine st_vb hE fun hE => ?_
          refine st_ite h (fun h => ?_) (fun h => ?_)
          ·
            refine uCallS (uCons ?_)
            refine st_var hE (i := 2) rfl fun v hE => ?_
            refine uCons ?_
            refine st_var hE (i := 3) rfl fun v hE => ?_
            refine uNil ?_
            refine st_call (two, right) hE rfl rfl h (fun e x I' H' cls d hm z => x _ H' cls d hm z.clear) fun t14 I H v hE h => ?_
            exact h _ _ _ hE.clear
          ·
            exact h _ _ _ (hE.pushS (α := Bool) (a := false) trivial).clear

theorem ok_law_values (T : Txt Pg w K mg) : FnOk Pg w K mg base (L2N.CX Pg w) 5 T.a_law_values T.d_law_values ["told", "row", "numbers"] (SpM K mg 3 (fun (a : O_Polynomial × (List Int) × (List Int)) => [.im a.1, .im a.2.1, .im a.2.2]) (fun a => m_law_values a.1 a.2.1 a.2.2) (fun b => .im b)) := by
  refine okN T.F_law_values sc_law_values (fun vs H Q E h => h.1) fun cdv A outer s H vs Q E hr h => ?_
  obtain ⟨hl, ⟨told, row, numbers⟩, I, ρ, Θ, hE, h⟩ := h
  have hE : Env K I H (start N_law_values vs) [.im (told : O_Polynomial), .im (row : (List Int)), .im (numbers : (List Int)), .any, .any] ρ Θ := st_start hE (by rw [hl]; first | rfl | done)
  refine ⟨_, (pss_cons (ps_for (passes_of rfl) rfl (pi_list (pv 2)) (pg_name (i := 3) sc_law_values.nd rfl (.inl rfl)) (pss_cons (ps_set (i := 4) sc_law_values.nd rfl (.inl rfl) (pe_methS' (pv 0) T.ko_Polynomial.cls T.me_Polynomial_value_at (ok_Polynomial_value_at (base := base) T) (hr.mono (by decide)) T.b_Polynomial_value_at (fun σ => L2N.passAt (L2N.takes_of rfl rfl rfl rfl) σ) (pa_cons (pv 3) pa_nil)))
      (pss_one (ps_if (PW.pt (pw_or (pt_not (pt_val (pe_callS (ok_law_whole (base := base) T) (hr.mono (by decide)) (by rfl) T.g_law_whole T.F_law_whole.kp T.b_law_whole (fun σ => L2N.passAt (L2N.takes_of rfl rfl rfl rfl) σ) (pa_cons (pv 4) pa_nil)))) (pw_or1 (pt_cmpR op_ne (pv 4) (pe_callS (ok_law_value (base := base) T) (hr.mono (by decide)) (by rfl) T.g_law_value T.F_law_value.kp T.b_law_value (fun σ => L2N.passAt (L2N.takes_of rfl rfl rfl rfl) σ) (pa_cons (pv 1) (pa_cons (pv 3) pa_nil))) (nomark _))))) (pss_one (ps_ret pe_bl)) pss_nil))))
      (pss_one (ps_ret pe_bl))), ?_⟩
  generalize start N_law_values vs = σ at hE ⊢
  change wp (m_law_values told row numbers) _ _ at h
  unfold m_law_values at h
  refine uSeq (uFor (uList ?_))
  refine st_var hE (i := 2) rfl fun v hE => ?_
  refine it_list hE fun ja hJ => ?_
  refine st_for (α := Int) hJ (RetP K ρ Θ (fun b => .im b) Q) (fun (_ : Unit) => [.im (told : O_Polynomial), .im (row : (List Int)), .im (numbers : (List Int)), .any, .any]) hE ⟨.inr rfl, .inr rfl, .inr rfl, .inl rfl, .inl rfl, trivial⟩ h (fun r h => h) (fun number s I H σ v N B hE h => ?_) (fun s I H σ hE h => ?_)
  ·
    refine st_store (Γ' := [.im (told : O_Polynomial), .im (row : (List Int)), .im (numbers : (List Int)), .im (number : Int), .any]) hE rfl (by decide : (3 : Nat) < 5) fun σ hE => ?_
    refine uSeq (uAsg (uMethS ?_))
    refine st_var hE (i := 0) rfl fun v hE => ?_
    refine st_methA hE T.ko_Polynomial (by decide) ?_
    refine uCons ?_
    refine st_push hE (hf_var rfl) fun hE => ?_
    refine uNil ?_
    refine st_call (told, number) hE rfl rfl h (fun e x I' H' cls d hm z => x _ H' cls d hm z.clear.nip) fun t1 I H v hE h => ?_
    refine st_store (Γ' := [.im (told : O_Polynomial), .im (row : (List Int)), .im (numbers : (List Int)), .im (number : Int), .im (t1 : Int)]) hE rfl (by decide : (4 : Nat) < 5) fun σ hE => ?_
    refine uIf ?_
    refine st_tj hE (fun (s : Unit) => [.im (told : O_Polynomial), .im (row : (List Int)), .im (numbers : (List Int)), .im (number : Int), .im (t1 : Int)]) h (fun h => ?_) (fun b4 s I H hE h => ?_)
    ·
      refine uOr (uNot (uB (uCallS (uCons ?_))))
      refine st_push hE (hf_var rfl) fun hE => ?_
      refine uNil ?_
      refine st_call t1 hE rfl rfl h (fun e x I' H' cls d hm z => x _ H' cls d hm z.clear.nip) fun t2 I H v hE h => ?_
      refine st_vb hE fun hE => ?_
      refine st_ite h (fun h => ?_) (fun h => ?_)
      ·
        exact h _ _ hE
      ·
        refine uTest (uOp ?_)
        refine st_push hE (hf_var rfl) fun hE => ?_
        refine uCallS (uCons ?_)
        refine st_var hE (i := 1) rfl fun v hE => ?_
        refine uCons ?_
        refine st_push hE (hf_var rfl) fun hE => ?_
        refine uNil ?_
        refine st_call (row, number) hE rfl rfl h (fun e x I' H' cls d hm z => x _ H' cls d hm z.clear.nip.nip) fun t3 I H v hE h => ?_
        refine st_op2p hE hr_neI fun v hE => ?_
        refine st_vb hE fun hE => ?_
        exact h _ _ hE
    refine st_ite h (fun h => ?_) (fun h => ?_)
    ·
      exact st_ret hE.pop (hf_c (a := false) rfl trivial) h
    ·
      refine uNext ?_
      exact h _ _ _ (hE.weak (Γ' := [.im (told : O_Polynomial), .im (row : (List Int)), .im (numbers : (List Int)), .any, .any]) ⟨.inr rfl, .inr rfl, .inr rfl, .inl rfl, .inl rfl, trivial⟩)
  exact st_ret hE (hf_c (a := true) rfl trivial) h

theorem ok_law_unlike (T : Txt Pg w K mg) : FnOk Pg w K mg base (L2N.CX Pg w) 6 T.a_law_unlike T.d_law_unlike ["told", "row"] (SpM K mg 2 (fun (a : O_Polynomial × (List Int)) => [.im a.1, .im a.2]) (fun a => m_law_unlike a.1 a.2) (fun b => .im b)) := by
  refine okN T.F_law_unlike sc_law_unlike (fun vs H Q E h => h.1) fun cdv A outer s H vs Q E hr h => ?_
  obtain ⟨hl, ⟨told, row⟩, I, ρ, Θ, hE, h⟩ := h
  have hE : Env K I H (start N_law_unlike vs) [.im (told : O_Polynomial), .im (row : (List Int)), .any, .any] ρ Θ := st_start hE (by rw [hl]; first | rfl | done)
  refine ⟨_, (pss_cons (ps_if (PW.pt (pw_or (pt_not (pt_eqS (pv 0) (pe_makeS T.mk_Polynomial___init (ok_Polynomial___init (base := base) T) (hr.mono (by decide)) (by rfl) T.gC_Polynomial T.b_Polynomial___init (fun σ => L2N.passAt (L2N.takes_of rfl rfl rfl rfl) σ) (pa_cons (pe_op op_cat (pv 1) (pe_lst (pa_cons pe_int (pa_cons pe_int pa_nil)))) pa_nil)) T.bo_Polynomial___eq (ok_Polynomial___eq (base := base) T) (hr.mono (by decide)) T.b_Polynomial___eq (fun σ => L2N.passAt (L2N.takes_of rfl rfl rfl rfl) σ) (nomark _))) (pw_or1 (pt_neS (pv 0) (pe_makeS T.mk_Polynomial___init (ok_Polynomial___init (base := base) T) (hr.mono (by decide)) (by rfl) T.gC_Polynomial T.b_Polynomial___init (fun σ => L2N.passAt (L2N.takes_of rfl rfl rfl rfl) σ) (pa_cons (pe_op op_cat (pv 1) (pe_lst (pa_cons pe_int pa_nil))) pa_nil)) T.bo_Polynomial___eq T.ne_Polynomial (ok_Polynomial___eq (base := base) T) (hr.mono (by decide)) T.b_Polynomial___eq (fun σ => L2N.passAt (L2N.takes_of rfl rfl rfl rfl) σ) (nomark _))))) (pss_one (ps_ret pe_bl)) pss_nil)
      (pss_cons (ps_for (passes_of rfl) rfl (pi_range1 (by rfl) T.z_range (pa_cons (pe_callB call_len_seq (by rfl) T.z_len PySem.boot_len (pa_cons (pv 1) pa_nil)) pa_nil)) (pg_name (i := 2) sc_law_unlike.nd rfl (.inl rfl)) (pss_cons (ps_set (i := 3) sc_law_unlike.nd rfl (.inl rfl) (pe_lstOf (K := K) rfl (by rfl) T.z_list (by decide +kernel) (pa_cons (pv 1) pa_nil)))
      (pss_cons (ps_asg (pe_op op_add (pe_ix ix_list (pv 3) (pv 2) (fun _ _ => rfl)) pe_int) (pg_sub (pv 3) (pv 2) set_list))
      (pss_one (ps_if (PW.pt (pw_or (pt_eqS (pv 0) (pe_makeS T.mk_Polynomial___init (ok_Polynomial___init (base := base) T) (hr.mono (by decide)) (by rfl) T.gC_Polynomial T.b_Polynomial___init (fun σ => L2N.passAt (L2N.takes_of rfl rfl rfl rfl) σ) (pa_cons (pe_lstOf (K := K) rfl (by rfl) T.z_list (by decide +kernel) (pa_cons (pv 3) pa_nil)) pa_nil)) T.bo_Polynomial___eq (ok_Polynomial___eq (base := base) T) (hr.mono (by decide)) T.b_Polynomial___eq (fun σ => L2N.passAt (L2N.takes_of rfl rfl rfl rfl) σ) (nomark _)) (pw_or1 (pt_not (pt_neS (pv 0) (pe_makeS T.mk_Polynomial___init (ok_Polynomial___init (base := base) T) (hr.mono (by decide)) (by rfl) T.gC_Polynomial T.b_Polynomial___init (fun σ => L2N.passAt (L2N.takes_of rfl rfl rfl rfl) σ) (pa_cons (pe_lstOf (K := K) rfl (by rfl) T.z_list (by decide +kernel) (pa_cons (pv 3) pa_nil)) pa_nil)) T.bo_Polynomial___eq T.ne_Polynomial (ok_Polynomial___eq (base := base) T) (hr.mono (by decide)) T.b_Polynomial___eq (fun σ => L2N.passAt (L2N.takes_of rfl rfl rfl rfl) σ) (nomark _)))))) (pss_one (ps_ret pe_bl)) pss_nil)))))
      (pss_cons (ps_if (PW.pt (pw_or (pt_eqS (pv 0) (pe_makeS T.mk_Polynomial___init (ok_Polynomial___init (base := base) T) (hr.mono (by decide)) (by rfl) T.gC_Polynomial T.b_Polynomial___init (fun σ => L2N.passAt (L2N.takes_of rfl rfl rfl rfl) σ) (pa_cons (pe_op op_cat (pv 1) (pe_lst (pa_cons pe_int pa_nil))) pa_nil)) T.bo_Polynomial___eq (ok_Polynomial___eq (base := base) T) (hr.mono (by decide)) T.b_Polynomial___eq (fun σ => L2N.passAt (L2N.takes_of rfl rfl rfl rfl) σ) (nomark _)) (pw_or1 (pt_eqS (pv 0) (pe_makeS T.mk_Polynomial___init (ok_Polynomial___init (base := base) T) (hr.mono (by decide)) (by rfl) T.gC_Polynomial T.b_Polynomial___init (fun σ => L2N.passAt (L2N.takes_of rfl rfl rfl rfl) σ) (pa_cons (pe_op op_cat (pe_lst (pa_cons pe_int pa_nil)) (pv 1)) pa_nil)) T.bo_Polynomial___eq (ok_Polynomial___eq (base := base) T) (hr.mono (by decide)) T.b_Polynomial___eq (fun σ => L2N.passAt (L2N.takes_of rfl rfl rfl rfl) σ) (nomark _))))) (pss_one (ps_ret pe_bl)) pss_nil)
      (pss_one (ps_ret (pe_not (pe_eqS (pv 0) (pe_callTy call_tuple_of (by rfl) T.z_tuple (by decide +kernel) (pa_cons (pv 1) pa_nil)) T.bo_Polynomial___eq___v2 (ok_Polynomial___eq___v2 (base := base) T) (hr.mono (by decide)) T.b_Polynomial___eq___v2 (fun σ => L2N.passAt (L2N.takes_of rfl rfl rfl rfl) σ) (nomark _)))))))), ?_⟩
  generalize start N_law_unlike vs = σ at hE ⊢
  change wp (m_law_unlike told row) _ _ at h
  unfold m_law_unlike at h
  refine uSeq (uIf ?_)
  refine st_tj hE (fun (s : Unit) => [.im (told : O_Polynomial), .im (row : (List Int)), .any, .any]) h (fun h => ?_) (fun b7 s I H hE h => ?_)
  ·
    refine uOr (uNot (uTest (uEqS' ?_)))
    refine st_var hE (i := 0) rfl fun v hE => ?_
    refine uMakeS (uCons (uOp ?_))
    refine st_var hE (i := 1) rfl fun v hE => ?_
    refine uLst (uCons ?_)
    refine st_push hE (hf_c (a := (0 : Int)) rfl trivial) fun hE => ?_
    refine uCons ?_
    refine st_push hE (hf_c (a := (0 : Int)) rfl trivial) fun hE => ?_
    refine uNil ?_
    refine st_lstI (α := Int) _ [(0 : Int), (0 : Int)] rfl (by decide : (2 : Nat) ≤ line) hE fun I H v hE => ?_
    refine st_catI hE h fun t1 I H v hE h => ?_
    refine uNil ?_
    refine st_make t1 hE rfl rfl T.ko_Polynomial.at_ h (fun e x I' H' cls d hm z => x _ H' cls d hm z.clear.nip) fun t2 I H v hE h => ?_
    refine st_cmpG hE T.ko_Polynomial ?_
    refine st_call (told, (Ob.mk t2 : O_Polynomial)) hE rfl rfl h (fun e x I' H' cls d hm z => x _ H' cls d hm z.clear) fun t3 I H v hE h => ?_
    refine st_vb hE fun hE => ?_
    refine st_ite h (fun h => ?_) (fun h => ?_)
    ·
      exact h _ _ hE
    ·
      refine uTest (uNeS ?_)
      refine st_var hE (i := 0) rfl fun v hE => ?_
      refine uMakeS (uCons (uOp ?_))
      refine st_var hE (i := 1) rfl fun v hE => ?_
      refine uLst (uCons ?_)
      refine st_push hE (hf_c (a := (0 : Int)) rfl trivial) fun hE => ?_
      refine uNil ?_
      refine st_lstI (α := Int) _ [(0 : Int)] rfl (by decide : (1 : Nat) ≤ line) hE fun I H v hE => ?_
      refine st_catI hE h fun t4 I H v hE h => ?_
      refine uNil ?_
      refine st_make t4 hE rfl rfl T.ko_Polynomial.at_ h (fun e x I' H' cls d hm z => x _ H' cls d hm z.clear.nip) fun t5 I H v hE h => ?_
      refine st_cmpG hE T.ko_Polynomial ?_
      refine st_call (told, (Ob.mk t5 : O_Polynomial)) hE rfl rfl h (fun e x I' H' cls d hm z => x _ H' cls d hm z.clear) fun t6 I H v hE h => ?_
      refine st_neT hE fun v hE => ?_
      refine st_vb hE fun hE => ?_
      exact h _ _ hE
  refine st_ite h (fun h => ?_) (fun h => ?_)
  ·
    exact st_ret hE (hf_c (a := false) rfl trivial) h
  ·
    refine uNext (uSeq (uFor ?_))
    refine it_rng1 hE (hf_lenL (hΓ := rfl)) h fun xs8 h J hJ => ?_
    refine st_for (α := Int) hJ (RetP K ρ Θ (fun b => .im b) Q) (fun (_ : Unit) => [.im (told : O_Polynomial), .im (row : (List Int)), .any, .any]) hE ⟨.inr rfl, .inr rfl, .inl rfl, .inl rfl, trivial⟩ h (fun r h => h) (fun k_ s I H σ v N B hE h => ?_) (fun s I H σ hE h => ?_)
    ·
      refine st_store (Γ' := [.im (told : O_Polynomial), .im (row : (List Int)), .im (k_ : Int), .any]) hE rfl (by decide : (2 : Nat) < 4) fun σ hE => ?_
      refine uSeq (uAsg (uCB (uCons ?_)))
      refine st_var hE (i := 1) rfl fun v hE => ?_
      refine uNil ?_
      refine st_listO hE fun H v hE => ?_
      refine st_store (Γ' := [.im (told : O_Polynomial), .im (row : (List Int)), .im (k_ : Int), .own (row : (List Int))]) hE rfl (by decide : (3 : Nat) < 4) fun σ hE => ?_
      refine uSeq (uAsg ?_)
      refine st_pushm hE (hf_mp (fun _ => hr_add) (hf_ixOp rfl (hf_var rfl)) (hf_c (a := (1 : Int)) rfl trivial)) h fun t10 hE h => ?_
      refine st_setLp (i := 3) (Γ' := fun (other : (List Int)) => [.im (told : O_Polynomial), .im (row : (List Int)), .im (k_ : Int), .own (other : (List Int))]) hE rfl (hf_var rfl) h (fun _ => rfl) fun other H hE h => ?_
      refine uIf ?_
      refine st_tj hE (fun (s : Unit) => [.im (told : O_Polynomial), .im (row : (List Int)), .im (k_ : Int), .own (other : (List Int))]) h (fun h => ?_) (fun b17 s I H hE h => ?_)
      ·
        refine uOr (uTest (uEqS' ?_))
        refine st_var hE (i := 0) rfl fun v hE => ?_
        refine uMakeS (uCons ?_)
        skip
        obtain ⟨I11_0, s11_0, hE11_0⟩ := hE.let (i := 3) rfl
        obtain ⟨S11, hE, back11, backX11, backO11⟩ := hE.borrowO hE11_0 s11_0
        replace hE : Env K _ _ _ [.im (told : O_Polynomial), .im (row : (List Int)), .im (k_ : Int), .im (other : (List Int))] _ _ := hE
        refine uCB (uCons ?_)
        refine st_var hE (i := 3) rfl fun v hE => ?_
        refine uNil ?_
        refine st_listO hE fun H v hE => ?_
        replace hE := backO11 hE
        refine st_freezeT hE fun I hE => ?_
        refine uNil ?_
        refine st_make other hE rfl rfl T.ko_Polynomial.at_ h (fun e x I' H' cls d hm z => x _ H' cls d hm z.clear.nip) fun t12 I H v hE h => ?_
        refine st_cmpG hE T.ko_Polynomial ?_
        refine st_call (told, (Ob.mk t12 : O_Polynomial)) hE rfl rfl h (fun e x I' H' cls d hm z => x _ H' cls d hm z.clear) fun t13 I H v hE h => ?_
        refine st_vb hE fun hE => ?_
        refine st_ite h (fun h => ?_) (fun h => ?_)
        ·
          exact h _ _ hE
        ·
          refine uNot (uTest (uNeS ?_))
          refine st_var hE (i := 0) rfl fun v hE => ?_
          refine uMakeS (uCons ?_)
          skip
          obtain ⟨I14_0, s14_0, hE14_0⟩ := hE.let (i := 3) rfl
          obtain ⟨S14, hE, back14, backX14, backO14⟩ := hE.borrowO hE14_0 s14_0
          replace hE : Env K _ _ _ [.im (told : O_Polynomial), .im (row : (List Int)), .im (k_ : Int), .im (other : (List Int))] _ _ := hE
          refine uCB (uCons ?_)
          refine st_var hE (i := 3) rfl fun v hE => ?_
          refine uNil ?_
          refine st_listO hE fun H v hE => ?_
          replace hE := backO14 hE
          refine st_freezeT hE fun I hE => ?_
          refine uNil ?_
          refine st_make other hE rfl rfl T.ko_Polynomial.at_ h (fun e x I' H' cls d hm z => x _ H' cls d hm z.clear.nip) fun t15 I H v hE h => ?_
          refine st_cmpG hE T.ko_Polynomial ?_
          refine st_call (told, (Ob.mk t15 : O_Polynomial)) hE rfl rfl h (fun e x I' H' cls d hm z => x _ H' cls d hm z.clear) fun t16 I H v hE h => ?_
          refine st_neT hE fun v hE => ?_
          refine st_vb hE fun hE => ?_
          exact h _ _ hE
      refine st_ite h (fun h => ?_) (fun h => ?_)
      ·
        exact st_ret hE (hf_c (a := false) rfl trivial) h
      ·
        refine uNext ?_
        exact h _ _ _ (hE.weak (Γ' := [.im (told : O_Polynomial), .im (row : (List Int)), .any, .any]) ⟨.inr rfl, .inr rfl, .inl rfl, .inl rfl, trivial⟩)
    refine uSeq (uIf ?_)
    refine st_tj hE (fun (s : Unit) => [.im (told : O_Polynomial), .im (row : (List Int)), .any, .any]) h (fun h => ?_) (fun b25 s I H hE h => ?_)
    ·
      refine uOr (uTest (uEqS' ?_))
      refine st_var hE (i := 0) rfl fun v hE => ?_
      refine uMakeS (uCons (uOp ?_))
      refine st_var hE (i := 1) rfl fun v hE => ?_
      refine uLst (uCons ?_)
      refine st_push hE (hf_c (a := (1 : Int)) rfl trivial) fun hE => ?_
      refine uNil ?_
      refine st_lstI (α := Int) _ [(1 : Int)] rfl (by decide : (1 : Nat) ≤ line) hE fun I H v hE => ?_
      refine st_catI hE h fun t19 I H v hE h => ?_
      refine uNil ?_
      refine st_make t19 hE rfl rfl T.ko_Polynomial.at_ h (fun e x I' H' cls d hm z => x _ H' cls d hm z.clear.nip) fun t20 I H v hE h => ?_
      refine st_cmpG hE T.ko_Polynomial ?_
      refine st_call (told, (Ob.mk t20 : O_Polynomial)) hE rfl rfl h (fun e x I' H' cls d hm z => x _ H' cls d hm z.clear) fun t21 I H v hE h => ?_
      refine st_vb hE fun hE => ?_
      refine st_ite h (fun h => ?_) (fun h => ?_)
      ·
        exact h _ _ hE
      ·
        refine uTest (uEqS' ?_)
        refine st_var hE (i := 0) rfl fun v hE => ?_
        refine uMakeS (uCons (uOp (uLst (uCons ?_))))
        refine st_push hE (hf_c (a := (1 : Int)) rfl trivial) fun hE => ?_
        refine uNil ?_
        refine st_lstI (α := Int) _ [(1 : Int)] rfl (by decide : (1 : Nat) ≤ line) hE fun I H v hE => ?_
        refine st_var hE (i := 1) rfl fun v hE => ?_
        refine st_catI hE h fun t22 I H v hE h => ?_
        refine uNil ?_
        refine st_make t22 hE rfl rfl T.ko_Polynomial.at_ h (fun e x I' H' cls d hm z => x _ H' cls d hm z.clear.nip) fun t23 I H v hE h => ?_
        refine st_cmpG hE T.ko_Polynomial ?_
        refine st_call (told, (Ob.mk t23 : O_Polynomial)) hE rfl rfl h (fun e x I' H' cls d hm z => x _ H' cls d hm z.clear) fun t24 I H v hE h => ?_
        refine st_vb hE fun hE => ?_
        exact h _ _ hE
    refine st_ite h (fun h => ?_) (fun h => ?_)
    ·
      exact st_ret hE (hf_c (a := false) rfl trivial) h
    ·
      refine uNext (uRet (uNotV (uEqS' ?_)))
      refine st_var hE (i := 0) rfl fun v hE => ?_
      refine uCB (uCons ?_)
      refine st_var hE (i := 1) rfl fun v hE => ?_
      refine uNil ?_
      refine st_tupleOf hE fun I H v hE => ?_
      refine st_cmpT hE T.ko_Polynomial T.nf_Polynomial_tuple ?_
      refine st_call (told, (TupL.mk row)) hE rfl rfl h (fun e x I' H' cls d hm z => x _ H' cls d hm z.clear) fun t26 I H v hE h => ?_
      refine st_notV hE fun v hE => ?_
      exact h _ _ _ hE.clear

theorem ok_law_bounds (T : Txt Pg w K mg) : FnOk Pg w K mg base (L2N.CX Pg w) 8 T.a_law_bounds T.d_law_bounds ["pool", "told"] (SpO K mg 1 (fun (a : O_Polynomial) => [.im a]) (fun s a => m_law_bounds s a) (fun b => .im b)) := by
  refine okN T.F_law_bounds sc_law_bounds (fun vs H Q E h => h.1) fun cdv A outer s H vs Q E hr h => ?_
  obtain ⟨hl, pool, told, I, ρ, Θ, hE, h⟩ := h
  obtain ⟨v0, vs, rfl⟩ : ∃ v0 vs1, vs = v0 :: vs1 := by cases vs with | nil => simp at hl | cons v0 vs => exact ⟨v0, vs, rfl⟩
  have hE : Env K I H (start N_law_bounds (v0 :: vs)) [.own (pool : (List Int)) (some v0), .im (told : O_Polynomial), .any, .any, .any, .any, .any] ρ Θ := st_start hE (by rw [hl]; first | rfl | done)
  refine ⟨_, (pss_cons (ps_set (i := 2) sc_law_bounds.nd rfl (.inl rfl) (pe_op op_add pe_int (pe_callS (ok_law_take (base := base) T) (hr.mono (by decide)) (by rfl) T.g_law_take T.F_law_take.kp T.b_law_take (fun σ => L2N.passAt (L2N.takes_of rfl rfl rfl rfl) σ) (pa_cons (pv 0) (pa_cons pe_int pa_nil)))))
      (pss_cons (ps_for (passes_of rfl) rfl (pi_list (pe_lst (pa_cons pe_int (pa_cons (pe_op op_sub pe_int pe_int) (pa_cons (pv 2) (pa_cons (pe_op op_sub pe_int (pv 2)) pa_nil)))))) (pg_name (i := 3) sc_law_bounds.nd rfl (.inl rfl)) (pss_one (ps_if (pt_not (pt_val (pe_callS (ok_law_value_refused (base := base) T) (hr.mono (by decide)) (by rfl) T.g_law_value_refused T.F_law_value_refused.kp T.b_law_value_refused (fun σ => L2N.passAt (L2N.takes_of rfl rfl rfl rfl) σ) (pa_cons (pv 1) (pa_cons (pv 3) pa_nil))))) (pss_one (ps_ret pe_bl)) pss_nil)))
      (pss_cons (ps_set (i := 4) sc_law_bounds.nd rfl (.inl rfl) (pe_callS (ok_law_take (base := base) T) (hr.mono (by decide)) (by rfl) T.g_law_take T.F_law_take.kp T.b_law_take (fun σ => L2N.passAt (L2N.takes_of rfl rfl rfl rfl) σ) (pa_cons (pv 0) (pa_cons pe_int pa_nil))))
      (pss_cons (ps_for (passes_of rfl) rfl (pi_list (pe_lst (pa_cons pe_int (pa_cons pe_int (pa_cons (pv 4) (pa_cons pe_int pa_nil)))))) (pg_name (i := 5) sc_law_bounds.nd rfl (.inl rfl)) (pss_one (ps_if (pt_not (pt_val (pe_callS (ok_law_is (base := base) T) (hr.mono (by decide)) (by rfl) T.g_law_is T.F_law_is.kp T.b_law_is (fun σ => L2N.passAt (L2N.takes_of rfl rfl rfl rfl) σ) (pa_cons (pe_smethS (pe_glob (v := .ref T.C_Polynomial) (by rfl) T.gC_Polynomial rfl) T.sm_Polynomial_power (ok_Polynomial_power (base := base) T) (hr.mono (by decide)) T.b_Polynomial_power (fun σ => L2N.passAt (L2N.takes_of rfl rfl rfl rfl) σ) (pa_cons (pv 5) pa_nil)) (pa_cons (pe_op op_cat (pe_lc (own := [("k", 6)]) (g := gName 6) (by rfl) sc_law_bounds.nd (pi_range1 (by rfl) T.z_range (pa_cons (pv 5) pa_nil)) (blkOk_by (N := N_law_bounds) (sc := defScope s_law_bounds) (by decide +kernel)) (fun _ _ _ _ _ => pg_name (i := 6) sc_law_bounds.nd rfl (.inl rfl)) (fun _ _ _ _ _ => pts_nil) (fun _ _ _ _ _ => pe_int)) (pe_lst (pa_cons pe_int pa_nil))) pa_nil))))) (pss_one (ps_ret pe_bl)) pss_nil)))
      (pss_cons (ps_for (passes_of rfl) rfl (pi_list (pe_lst (pa_cons pe_int (pa_cons (pe_op op_sub pe_int pe_int) (pa_cons (pe_op op_add pe_int (pv 4)) (pa_cons (pe_op op_sub (pe_op op_sub pe_int pe_int) (pv 4)) pa_nil)))))) (pg_name (i := 5) sc_law_bounds.nd rfl (.inl rfl)) (pss_one (ps_if (pt_not (pt_val (pe_callS (ok_law_power_refused (base := base) T) (hr.mono (by decide)) (by rfl) T.g_law_power_refused T.F_law_power_refused.kp T.b_law_power_refused (fun σ => L2N.passAt (L2N.takes_of rfl rfl rfl rfl) σ) (pa_cons (pv 5) pa_nil)))) (pss_one (ps_ret pe_bl)) pss_nil)))
      (pss_one (ps_ret pe_bl))))))), ?_⟩
  generalize start N_law_bounds (v0 :: vs) = σ at hE ⊢
  change wp (m_law_bounds pool told) _ _ at h
  unfold m_law_bounds at h
  refine uSeq (uAsg (uOp ?_))
  refine st_push hE (hf_c (a := (1001 : Int)) rfl trivial) fun hE => ?_
  refine uCallS (uCons ?_)
  refine st_varO (i := 0) hE rfl fun va h0_0 => ?_
  refine uCons ?_
  refine st_push hE (hf_c (a := (5040 : Int)) rfl trivial) fun hE => ?_
  refine uNil ?_
  refine st_callO (i := 0) (5040 : Int) rfl h0_0 hE rfl rfl h (fun e x I' H' cls d hm z => x _ H' cls d hm z.clear.nip) fun t2 I H v hE h => ?_
  refine st_op2 hE hr_add h fun t3 v hE h => ?_
  refine st_store (Γ' := [.own (t2.2 : (List Int)) (some v0), .im (told : O_Polynomial), .im (t3 : Int), .any, .any, .any, .any]) hE rfl (by decide : (2 : Nat) < 7) fun σ hE => ?_
  refine uSeq (uFor (uList (uLst (uCons ?_))))
  refine st_push hE (hf_c (a := (1001 : Int)) rfl trivial) fun hE => ?_
  refine uCons ?_
  refine st_push hE (hf_is (m := (.ok ((0 : Int) - (1001 : Int)))) (m' := .ok (-1001 : Int)) (hf_pp hr_sub (hf_c (a := (0 : Int)) rfl trivial) (hf_c (a := (1001 : Int)) rfl trivial)) (by decide +kernel)) fun hE => ?_
  refine uCons ?_
  refine st_push hE (hf_var rfl) fun hE => ?_
  refine uCons ?_
  refine st_push hE (hf_pp hr_sub (hf_c (a := (0 : Int)) rfl trivial) (hf_var rfl)) fun hE => ?_
  refine uNil ?_
  refine st_lstI (α := Int) _ [(1001 : Int), (-1001 : Int), t3, ((0 : Int) - t3)] rfl (by decide : (4 : Nat) ≤ line) hE fun I H v hE => ?_
  refine it_list hE fun ja hJ => ?_
  refine st_for (α := Int) hJ (RetO K ρ Θ (fun b => .im b) v0 Q) (fun (_ : Unit) => [.own (t2.2 : (List Int)) (some v0), .im (told : O_Polynomial), .im (t3 : Int), .any, .any, .any, .any]) hE ⟨.inr rfl, .inr rfl, .inr rfl, .inl rfl, .inl rfl, .inl rfl, .inl rfl, trivial⟩ h (fun r h => h) (fun number s I H σ v N B hE h => ?_) (fun s I H σ hE h => ?_)
  ·
    refine st_store (Γ' := [.own (t2.2 : (List Int)) (some v0), .im (told : O_Polynomial), .im (t3 : Int), .im (number : Int), .any, .any, .any]) hE rfl (by decide : (3 : Nat) < 7) fun σ hE => ?_
    refine uIf (uNot (uB (uCallS (uCons ?_))))
    refine st_var hE (i := 1) rfl fun v hE => ?_
    refine uCons ?_
    refine st_push hE (hf_var rfl) fun hE => ?_
    refine uNil ?_
    refine st_call (told, number) hE rfl rfl h (fun e x I' H' cls d hm z => x _ H' cls d hm z.clear.nip) fun t4 I H v hE h => ?_
    refine st_vb hE fun hE => ?_
    refine st_ite h (fun h => ?_) (fun h => ?_)
    ·
      refine uRet ?_
      refine st_push hE (hf_c (a := false) rfl trivial) fun hE => ?_
      exact h _ _ _ hE.nip.only0
    ·
      refine uNext ?_
      exact h _ _ _ (hE.weak (Γ' := [.own (t2.2 : (List Int)) (some v0), .im (told : O_Polynomial), .im (t3 : Int), .any, .any, .any, .any]) ⟨.inr rfl, .inr rfl, .inr rfl, .inl rfl, .inl rfl, .inl rfl, .inl rfl, trivial⟩)
  refine uSeq (uAsg (uCallS (uCons ?_)))
  refine st_varO (i := 0) hE rfl fun va h0_5 => ?_
  refine uCons ?_
  refine st_push hE (hf_c (a := (100 : Int)) rfl trivial) fun hE => ?_
  refine uNil ?_
  refine st_callO (i := 0) (100 : Int) rfl h0_5 hE rfl rfl h (fun e x I' H' cls d hm z => x _ H' cls d hm z.clear) fun t7 I H v hE h => ?_
  refine st_store (Γ' := [.own (t7.2 : (List Int)) (some v0), .im (told : O_Polynomial), .im (t3 : Int), .any, .im (t7.1 : Int), .any, .any]) hE rfl (by decide : (4 : Nat) < 7) fun σ hE => ?_
  refine uSeq (uFor (uList (uLst (uCons ?_))))
  refine st_push hE (hf_c (a := (0 : Int)) rfl trivial) fun hE => ?_
  refine uCons ?_
  refine st_push hE (hf_c (a := (1 : Int)) rfl trivial) fun hE => ?_
  refine uCons ?_
  refine st_push hE (hf_var rfl) fun hE => ?_
  refine uCons ?_
  refine st_push hE (hf_c (a := (99 : Int)) rfl trivial) fun hE => ?_
  refine uNil ?_
  refine st_lstI (α := Int) _ [(0 : Int), (1 : Int), t7.1, (99 : Int)] rfl (by decide : (4 : Nat) ≤ line) hE fun I H v hE => ?_
  refine it_list hE fun ja hJ => ?_
  refine st_for (α := Int) hJ (RetO K ρ Θ (fun b => .im b) v0 Q) (fun (_ : Unit) => [.own (t7.2 : (List Int)) (some v0), .im (told : O_Polynomial), .im (t3 : Int), .any, .im (t7.1 : Int), .any, .any]) hE ⟨.inr rfl, .inr rfl, .inr rfl, .inl rfl, .inr rfl, .inl rfl, .inl rfl, trivial⟩ h (fun r h => h) (fun exponent s I H σ v N B hE h => ?_) (fun s I H σ hE h => ?_)
  ·
    refine st_store (Γ' := [.own (t7.2 : (List Int)) (some v0), .im (told : O_Polynomial), .im (t3 : Int), .any, .im (t7.1 : Int), .im (exponent : Int), .any]) hE rfl (by decide : (5 : Nat) < 7) fun σ hE => ?_
    refine uIf (uNot (uB (uCallS (uCons (uSMethS ?_)))))
    refine ⟨rfl, ?_⟩
    refine uCons ?_
    refine st_push hE (hf_var rfl) fun hE => ?_
    refine uNil ?_
    refine st_call exponent hE rfl rfl h (fun e x I' H' cls d hm z => x _ H' cls d hm z.clear.nip) fun t8 I H v hE h => ?_
    refine uCons (uOp (uLc ?_))
    refine it_rng1 hE (hf_var rfl) h fun xs9 h J hJ => ?_
    refine st_lcm (α := Int) (β := Int) (i := 6) hJ hE rfl h (fun ys10 I H v hE h => ?_) (fun k_ I H σ ρ' Θ' Qe hE h => ?_)
    rotate_left 1
    ·
      refine st_push hE (hf_c (a := (0 : Int)) rfl trivial) fun hE => ?_
      exact h _ _ _ hE
    refine st_freezeT hE fun I hE => ?_
    refine uLst (uCons ?_)
    refine st_push hE (hf_c (a := (1 : Int)) rfl trivial) fun hE => ?_
    refine uNil ?_
    refine st_lstI (α := Int) _ [(1 : Int)] rfl (by decide : (1 : Nat) ≤ line) hE fun I H v hE => ?_
    refine st_catI hE h fun t11 I H v hE h => ?_
    refine uNil ?_
    refine st_call (t8, t11) hE rfl rfl h (fun e x I' H' cls d hm z => x _ H' cls d hm z.clear.nip) fun t12 I H v hE h => ?_
    refine st_vb hE fun hE => ?_
    refine st_ite h (fun h => ?_) (fun h => ?_)
    ·
      refine uRet ?_
      refine st_push hE (hf_c (a := false) rfl trivial) fun hE => ?_
      exact h _ _ _ hE.nip.only0
    ·
      refine uNext ?_
      exact h _ _ _ (hE.weak (Γ' := [.own (t7.2 : (List Int)) (some v0), .im (told : O_Polynomial), .im (t3 : Int), .any, .im (t7.1 : Int), .any, .any]) ⟨.inr rfl, .inr rfl, .inr rfl, .inl rfl, .inr rfl, .inl rfl, .inl rfl, trivial⟩)
  refine uSeq (uFor (uList (uLst (uCons ?_))))
  refine st_push hE (hf_c (a := (100 : Int)) rfl trivial) fun hE => ?_
  refine uCons ?_
  refine st_push hE (hf_is (m := (.ok ((0 : Int) - (1 : Int)))) (m' := .ok (-1 : Int)) (hf_pp hr_sub (hf_c (a := (0 : Int)) rfl trivial) (hf_c (a := (1 : Int)) rfl trivial)) (by decide +kernel)) fun hE => ?_
  refine uCons ?_
  refine st_push hE (hf_pp hr_add (hf_c (a := (101 : Int)) rfl trivial) (hf_var rfl)) fun hE => ?_
  refine uCons ?_
  refine st_push hE (hf_pp hr_sub (hf_is (m := (.ok ((0 : Int) - (2 : Int)))) (m' := .ok (-2 : Int)) (hf_pp hr_sub (hf_c (a := (0 : Int)) rfl trivial) (hf_c (a := (2 : Int)) rfl trivial)) (by decide +kernel)) (hf_var rfl)) fun hE => ?_
  refine uNil ?_
  refine st_lstI (α := Int) _ [(100 : Int), (-1 : Int), ((101 : Int) + t7.1), ((-2 : Int) - t7.1)] rfl (by decide : (4 : Nat) ≤ line) hE fun I H v hE => ?_
  refine it_list hE fun ja hJ => ?_
  refine st_for (α := Int) hJ (RetO K ρ Θ (fun b => .im b) v0 Q) (fun (_ : Unit) => [.own (t7.2 : (List Int)) (some v0), .im (told : O_Polynomial), .im (t3 : Int), .any, .im (t7.1 : Int), .any, .any]) hE ⟨.inr rfl, .inr rfl, .inr rfl, .inl rfl, .inr rfl, .inl rfl, .inl rfl, trivial⟩ h (fun r h => h) (fun exponent s I H σ v N B hE h => ?_) (fun s I H σ hE h => ?_)
  ·
    refine st_store (Γ' := [.own (t7.2 : (List Int)) (some v0), .im (told : O_Polynomial), .im (t3 : Int), .any, .im (t7.1 : Int), .im (exponent : Int), .any]) hE rfl (by decide : (5 : Nat) < 7) fun σ hE => ?_
    refine uIf (uNot (uB (uCallS (uCons ?_))))
    refine st_push hE (hf_var rfl) fun hE => ?_
    refine uNil ?_
    refine st_call exponent hE rfl rfl h (fun e x I' H' cls d hm z => x _ H' cls d hm z.clear.nip) fun t14 I H v hE h => ?_
    refine st_vb hE fun hE => ?_
    refine st_ite h (fun h => ?_) (fun h => ?_)
    ·
      refine uRet ?_
      refine st_push hE (hf_c (a := false) rfl trivial) fun hE => ?_
      exact h _ _ _ hE.nip.only0
    ·
      refine uNext ?_
      exact h _ _ _ (hE.weak (Γ' := [.own (t7.2 : (List Int)) (some v0), .im (told : O_Polynomial), .im (t3 : Int), .any, .im (t7.1 : Int), .any, .any]) ⟨.inr rfl, .inr rfl, .inr rfl, .inl rfl, .inr rfl, .inl rfl, .inl rfl, trivial⟩)
  refine uRet ?_
  refine st_push hE (hf_c (a := true) rfl trivial) fun hE => ?_
  exact h _ _ _ hE.only0

theorem ok_law_limits (T : Txt Pg w K mg) : FnOk Pg w K mg base (L2N.CX Pg w) 8 T.a_law_limits T.d_law_limits ["pool"] (SpO K mg 0 (fun (a : Unit) => []) (fun s a => m_law_limits s ) (fun b => .im b)) := by
  refine okN T.F_law_limits sc_law_limits (fun vs H Q E h => h.1) fun cdv A outer s H vs Q E hr h => ?_
  obtain ⟨hl, pool, ⟨⟩, I, ρ, Θ, hE, h⟩ := h
  obtain ⟨v0, vs, rfl⟩ : ∃ v0 vs1, vs = v0 :: vs1 := by cases vs with | nil => simp at hl | cons v0 vs => exact ⟨v0, vs, rfl⟩
  have hE : Env K I H (start N_law_limits (v0 :: vs)) [.own (pool : (List Int)) (some v0), .any, .any, .any, .any, .any, .any, .any, .any, .any, .any] ρ Θ := st_start hE (by rw [hl]; first | rfl | done)
  refine ⟨_, (pss_cons (ps_set (i := 1) sc_law_limits.nd rfl (.inl rfl) (pe_op op_add pe_int (pe_callS (ok_law_take (base := base) T) (hr.mono (by decide)) (by rfl) T.g_law_take T.F_law_take.kp T.b_law_take (fun σ => L2N.passAt (L2N.takes_of rfl rfl rfl rfl) σ) (pa_cons (pv 0) (pa_cons pe_int pa_nil)))))
      (pss_cons (ps_set (i := 2) sc_law_limits.nd rfl (.inl rfl) (pe_callS (ok_law_long (base := base) T) (hr.mono (by decide)) (by rfl) T.g_law_long T.F_law_long.kp T.b_law_long (fun σ => L2N.passAt (L2N.takes_of rfl rfl rfl rfl) σ) (pa_cons (pv 0) (pa_cons (pv 1) pa_nil))))
      (pss_cons (ps_set (i := 3) sc_law_limits.nd rfl (.inl rfl) (pe_callS (ok_law_long (base := base) T) (hr.mono (by decide)) (by rfl) T.g_law_long T.F_law_long.kp T.b_law_long (fun σ => L2N.passAt (L2N.takes_of rfl rfl rfl rfl) σ) (pa_cons (pv 0) (pa_cons (pe_op op_sub pe_int (pv 1)) pa_nil))))
      (pss_cons (ps_set (i := 4) sc_law_limits.nd rfl (.inl rfl) (pe_callS (ok_law_long (base := base) T) (hr.mono (by decide)) (by rfl) T.g_law_long T.F_law_long.kp T.b_law_long (fun σ => L2N.passAt (L2N.takes_of rfl rfl rfl rfl) σ) (pa_cons (pv 0) (pa_cons (pe_op op_sub pe_int (pv 1)) pa_nil))))
      (pss_cons (ps_set (i := 5) sc_law_limits.nd rfl (.inl rfl) (pe_makeS T.mk_Polynomial___init (ok_Polynomial___init (base := base) T) (hr.mono (by decide)) (by rfl) T.gC_Polynomial T.b_Polynomial___init (fun σ => L2N.passAt (L2N.takes_of rfl rfl rfl rfl) σ) (pa_cons (pe_lstOf (K := K) rfl (by rfl) T.z_list (by decide +kernel) (pa_cons (pv 2) pa_nil)) pa_nil)))
      (pss_cons (ps_set (i := 6) sc_law_limits.nd rfl (.inl rfl) (pe_makeS T.mk_Polynomial___init (ok_Polynomial___init (base := base) T) (hr.mono (by decide)) (by rfl) T.gC_Polynomial T.b_Polynomial___init (fun σ => L2N.passAt (L2N.takes_of rfl rfl rfl rfl) σ) (pa_cons (pe_lstOf (K := K) rfl (by rfl) T.z_list (by decide +kernel) (pa_cons (pv 3) pa_nil)) pa_nil)))
      (pss_cons (ps_set (i := 7) sc_law_limits.nd rfl (.inl rfl) (pe_callS (ok_law_times (base := base) T) (hr.mono (by decide)) (by rfl) T.g_law_times T.F_law_times.kp T.b_law_times (fun σ => L2N.passAt (L2N.takes_of rfl rfl rfl rfl) σ) (pa_cons (pv 2) (pa_cons (pv 3) pa_nil))))
      (pss_cons (ps_if (PW.pt (pw_or (pt_cmpR op_ne (pe_callB call_len_seq (by rfl) T.z_len PySem.boot_len (pa_cons (pv 7) pa_nil)) pe_int (nomark _)) (pw_or1 (pt_not (pt_val (pe_callS (ok_law_is (base := base) T) (hr.mono (by decide)) (by rfl) T.g_law_is T.F_law_is.kp T.b_law_is (fun σ => L2N.passAt (L2N.takes_of rfl rfl rfl rfl) σ) (pa_cons (pe_binS (pv 5) (pv 6) T.bo_Polynomial___mul (ok_Polynomial___mul (base := base) T) (hr.mono (by decide)) T.b_Polynomial___mul (fun σ => L2N.passAt (L2N.takes_of rfl rfl rfl rfl) σ)) (pa_cons (pv 7) pa_nil)))))))) (pss_one (ps_ret pe_bl)) pss_nil)
      (pss_cons (ps_set (i := 8) sc_law_limits.nd rfl (.inl rfl) (pe_makeS T.mk_Polynomial___init (ok_Polynomial___init (base := base) T) (hr.mono (by decide)) (by rfl) T.gC_Polynomial T.b_Polynomial___init (fun σ => L2N.passAt (L2N.takes_of rfl rfl rfl rfl) σ) (pa_cons (pe_lstOf (K := K) rfl (by rfl) T.z_list (by decide +kernel) (pa_cons (pv 4) pa_nil)) pa_nil)))
      (pss_cons (ps_if (PW.pt (pw_or (pt_not (pt_val (pe_callS (ok_law_product_refused (base := base) T) (hr.mono (by decide)) (by rfl) T.g_law_product_refused T.F_law_product_refused.kp T.b_law_product_refused (fun σ => L2N.passAt (L2N.takes_of rfl rfl rfl rfl) σ) (pa_cons (pv 5) (pa_cons (pv 8) pa_nil))))) (pw_or1 (pt_not (pt_val (pe_callS (ok_law_product_refused (base := base) T) (hr.mono (by decide)) (by rfl) T.g_law_product_refused T.F_law_product_refused.kp T.b_law_product_refused (fun σ => L2N.passAt (L2N.takes_of rfl rfl rfl rfl) σ) (pa_cons (pv 8) (pa_cons (pv 5) pa_nil)))))))) (pss_one (ps_ret pe_bl)) pss_nil)
      (pss_cons (ps_if (PW.pt (pw_or (pt_not (pt_val (pe_callS (ok_law_is (base := base) T) (hr.mono (by decide)) (by rfl) T.g_law_is T.F_law_is.kp T.b_law_is (fun σ => L2N.passAt (L2N.takes_of rfl rfl rfl rfl) σ) (pa_cons (pe_binS (pv 6) (pv 5) T.bo_Polynomial___mul (ok_Polynomial___mul (base := base) T) (hr.mono (by decide)) T.b_Polynomial___mul (fun σ => L2N.passAt (L2N.takes_of rfl rfl rfl rfl) σ)) (pa_cons (pv 7) pa_nil))))) (pw_or1 (pt_not (pt_val (pe_callS (ok_law_is (base := base) T) (hr.mono (by decide)) (by rfl) T.g_law_is T.F_law_is.kp T.b_law_is (fun σ => L2N.passAt (L2N.takes_of rfl rfl rfl rfl) σ) (pa_cons (pe_binS (pv 5) (pe_makeS T.mk_Polynomial___init (ok_Polynomial___init (base := base) T) (hr.mono (by decide)) (by rfl) T.gC_Polynomial T.b_Polynomial___init (fun σ => L2N.passAt (L2N.takes_of rfl rfl rfl rfl) σ) (pa_cons (pe_lst (pa_cons pe_int (pa_cons pe_int pa_nil))) pa_nil)) T.bo_Polynomial___mul (ok_Polynomial___mul (base := base) T) (hr.mono (by decide)) T.b_Polynomial___mul (fun σ => L2N.passAt (L2N.takes_of rfl rfl rfl rfl) σ)) (pa_cons (pe_lst pa_nil) pa_nil)))))))) (pss_one (ps_ret pe_bl)) pss_nil)
      (pss_cons (ps_if (pt_not (pt_val (pe_callS (ok_law_values (base := base) T) (hr.mono (by decide)) (by rfl) T.g_law_values T.F_law_values.kp T.b_law_values (fun σ => L2N.passAt (L2N.takes_of rfl rfl rfl rfl) σ) (pa_cons (pe_binS (pv 5) (pv 6) T.bo_Polynomial___mul (ok_Polynomial___mul (base := base) T) (hr.mono (by decide)) T.b_Polynomial___mul (fun σ => L2N.passAt (L2N.takes_of rfl rfl rfl rfl) σ)) (pa_cons (pv 7) (pa_cons (pe_lst (pa_cons (pe_op op_sub pe_int pe_int) (pa_cons pe_int pa_nil))) pa_nil)))))) (pss_one (ps_ret pe_bl)) pss_nil)
      (pss_cons (ps_set (i := 9) sc_law_limits.nd rfl (.inl rfl) (pe_callS (ok_law_long (base := base) T) (hr.mono (by decide)) (by rfl) T.g_law_long T.F_law_long.kp T.b_law_long (fun σ => L2N.passAt (L2N.takes_of rfl rfl rfl rfl) σ) (pa_cons (pv 0) (pa_cons pe_int pa_nil))))
      (pss_cons (ps_if (PW.pt (pw_or (pt_not (pt_val (pe_callS (ok_law_is (base := base) T) (hr.mono (by decide)) (by rfl) T.g_law_is T.F_law_is.kp T.b_law_is (fun σ => L2N.passAt (L2N.takes_of rfl rfl rfl rfl) σ) (pa_cons (pe_makeS T.mk_Polynomial___init (ok_Polynomial___init (base := base) T) (hr.mono (by decide)) (by rfl) T.gC_Polynomial T.b_Polynomial___init (fun σ => L2N.passAt (L2N.takes_of rfl rfl rfl rfl) σ) (pa_cons (pe_lstOf (K := K) rfl (by rfl) T.z_list (by decide +kernel) (pa_cons (pv 9) pa_nil)) pa_nil)) (pa_cons (pv 9) pa_nil))))) (pw_or1 (pt_not (pt_val (pe_callS (ok_law_given_refused (base := base) T) (hr.mono (by decide)) (by rfl) T.g_law_given_refused T.F_law_given_refused.kp T.b_law_given_refused (fun σ => L2N.passAt (L2N.takes_of rfl rfl rfl rfl) σ) (pa_cons (pe_op op_cat (pv 9) (pe_lst (pa_cons pe_int pa_nil))) pa_nil))))))) (pss_one (ps_ret pe_bl)) pss_nil)
      (pss_one (ps_ret (pe_and (pe_callS (ok_law_given_refused (base := base) T) (hr.mono (by decide)) (by rfl) T.g_law_given_refused T.F_law_given_refused.kp T.b_law_given_refused (fun σ => L2N.passAt (L2N.takes_of rfl rfl rfl rfl) σ) (pa_cons (pe_op op_cat (pv 9) (pe_lst (pa_cons pe_int pa_nil))) pa_nil)) (pe_one (pe_callS (ok_law_given_refused (base := base) T) (hr.mono (by decide)) (by rfl) T.g_law_given_refused T.F_law_given_refused.kp T.b_law_given_refused (fun σ => L2N.passAt (L2N.takes_of rfl rfl rfl rfl) σ) (pa_cons (pe_lc (own := [("k", 10)]) (g := gName 10) (by rfl) sc_law_limits.nd (pi_range1 (by rfl) T.z_range (pa_cons (pe_op op_add pe_int (pv 1)) pa_nil)) (blkOk_by (N := N_law_limits) (sc := defScope s_law_limits) (by decide +kernel)) (fun _ _ _ _ _ => pg_name (i := 10) sc_law_limits.nd rfl (.inl rfl)) (fun _ _ _ _ _ => pts_nil) (fun _ _ _ _ _ => pe_int)) pa_nil)))))))))))))))))))), ?_⟩
  generalize start N_law_limits (v0 :: vs) = σ at hE ⊢
  change wp (m_law_limits pool) _ _ at h
  unfold m_law_limits at h
  refine uSeq (uAsg (uOp ?_))
  refine st_push hE (hf_c (a := (2 : Int)) rfl trivial) fun hE => ?_
  refine uCallS (uCons ?_)
  refine st_varO (i := 0) hE rfl fun va h0_0 => ?_
  refine uCons ?_
  refine st_push hE (hf_c (a := (99 : Int)) rfl trivial) fun hE => ?_
  refine uNil ?_
  refine st_callO (i := 0) (99 : Int) rfl h0_0 hE rfl rfl h (fun e x I' H' cls d hm z => x _ H' cls d hm z.clear.nip) fun t2 I H v hE h => ?_
  refine st_op2 hE hr_add h fun t3 v hE h => ?_
  refine st_store (Γ' := [.own (t2.2 : (List Int)) (some v0), .im (t3 : Int), .any, .any, .any, .any, .any, .any, .any, .any, .any]) hE rfl (by decide : (1 : Nat) < 11) fun σ hE => ?_
  refine uSeq (uAsg (uCallS (uCons ?_)))
  refine st_varO (i := 0) hE rfl fun va h0_3 => ?_
  refine uCons ?_
  refine st_push hE (hf_var rfl) fun hE => ?_
  refine uNil ?_
  refine st_callO (i := 0) t3 rfl h0_3 hE rfl rfl h (fun e x I' H' cls d hm z => x _ H' cls d hm z.clear) fun t5 I H v hE h => ?_
  refine st_store (Γ' := [.own (t5.2 : (List Int)) (some v0), .im (t3 : Int), .im (t5.1 : (List Int)), .any, .any, .any, .any, .any, .any, .any, .any]) hE rfl (by decide : (2 : Nat) < 11) fun σ hE => ?_
  refine uSeq (uAsg (uCallS (uCons ?_)))
  refine st_varO (i := 0) hE rfl fun va h0_5 => ?_
  refine uCons ?_
  refine st_push hE (hf_pp hr_sub (hf_c (a := (101 : Int)) rfl trivial) (hf_var rfl)) fun hE => ?_
  refine uNil ?_
  refine st_callO (i := 0) ((101 : Int) - t3) rfl h0_5 hE rfl rfl h (fun e x I' H' cls d hm z => x _ H' cls d hm z.clear) fun t7 I H v hE h => ?_
  refine st_store (Γ' := [.own (t7.2 : (List Int)) (some v0), .im (t3 : Int), .im (t5.1 : (List Int)), .im (t7.1 : (List Int)), .any, .any, .any, .any, .any, .any, .any]) hE rfl (by decide : (3 : Nat) < 11) fun σ hE => ?_
  refine uSeq (uAsg (uCallS (uCons ?_)))
  refine st_varO (i := 0) hE rfl fun va h0_7 => ?_
  refine uCons ?_
  refine st_push hE (hf_pp hr_sub (hf_c (a := (102 : Int)) rfl trivial) (hf_var rfl)) fun hE => ?_
  refine uNil ?_
  refine st_callO (i := 0) ((102 : Int) - t3) rfl h0_7 hE rfl rfl h (fun e x I' H' cls d hm z => x _ H' cls d hm z.clear) fun t9 I H v hE h => ?_
  refine st_store (Γ' := [.own (t9.2 : (List Int)) (some v0), .im (t3 : Int), .im (t5.1 : (List Int)), .im (t7.1 : (List Int)), .im (t9.1 : (List Int)), .any, .any, .any, .any, .any, .any]) hE rfl (by decide : (4 : Nat) < 11) fun σ hE => ?_
  refine uSeq (uAsg (uMakeS (uCons (uCB (uCons ?_)))))
  refine st_var hE (i := 2) rfl fun v hE => ?_
  refine uNil ?_
  refine st_listI hE fun I H v hE => ?_
  refine uNil ?_
  refine st_make t5.1 hE rfl rfl T.ko_Polynomial.at_ h (fun e x I' H' cls d hm z => x _ H' cls d hm z.clear) fun t10 I H v hE h => ?_
  refine st_name hE h fun one hE h => ?_
  refine st_store (Γ' := [.own (t9.2 : (List Int)) (some v0), .im (t3 : Int), .im (t5.1 : (List Int)), .im (t7.1 : (List Int)), .im (t9.1 : (List Int)), .im (one : O_Polynomial), .any, .any, .any, .any, .any]) hE rfl (by decide : (5 : Nat) < 11) fun σ hE => ?_
  refine uSeq (uAsg (uMakeS (uCons (uCB (uCons ?_)))))
  refine st_var hE (i := 3) rfl fun v hE => ?_
  refine uNil ?_
  refine st_listI hE fun I H v hE => ?_
  refine uNil ?_
  refine st_make t7.1 hE rfl rfl T.ko_Polynomial.at_ h (fun e x I' H' cls d hm z => x _ H' cls d hm z.clear) fun t11 I H v hE h => ?_
  refine st_name hE h fun two hE h => ?_
  refine st_store (Γ' := [.own (t9.2 : (List Int)) (some v0), .im (t3 : Int), .im (t5.1 : (List Int)), .im (t7.1 : (List Int)), .im (t9.1 : (List Int)), .im (one : O_Polynomial), .im (two : O_Polynomial), .any, .any, .any, .any]) hE rfl (by decide : (6 : Nat) < 11) fun σ hE => ?_
  refine uSeq (uAsg (uCallS (uCons ?_)))
  refine st_var hE (i := 2) rfl fun v hE => ?_
  refine uCons ?_
  refine st_var hE (i := 3) rfl fun v hE => ?_
  refine uNil ?_
  refine st_call (t5.1, t7.1) hE rfl rfl h (fun e x I' H' cls d hm z => x _ H' cls d hm z.clear) fun t12 I H v hE h => ?_
  refine st_store (Γ' := [.own (t9.2 : (List Int)) (some v0), .im (t3 : Int), .im (t5.1 : (List Int)), .im (t7.1 : (List Int)), .im (t9.1 : (List Int)), .im (one : O_Polynomial), .im (two : O_Polynomial), .im (t12 : (List Int)), .any, .any, .any]) hE rfl (by decide : (7 : Nat) < 11) fun σ hE => ?_
  refine uSeq (uIf ?_)
  refine st_tj hE (fun (s : Unit) => [.own (t9.2 : (List Int)) (some v0), .im (t3 : Int), .im (t5.1 : (List Int)), .im (t7.1 : (List Int)), .im (t9.1 : (List Int)), .im (one : O_Polynomial), .im (two : O_Polynomial), .im (t12 : (List Int)), .any, .any, .any]) h (fun h => ?_) (fun b15 s I H hE h => ?_)
  ·
    refine uOr ?_
    refine st_htp hE (ht_tt (hf_pp hr_neI (hf_lenL (hΓ := rfl)) (hf_c (a := (100 : Int)) rfl trivial))) ?_
    refine st_ite h (fun h => ?_) (fun h => ?_)
    ·
      exact h _ _ hE
    ·
      refine uNot (uB (uCallS (uCons (uBinS ?_))))
      refine st_var hE (i := 5) rfl fun v hE => ?_
      refine st_var hE (i := 6) rfl fun v hE => ?_
      refine st_smG hE T.ko_Polynomial ?_
      refine st_call (one, two) hE rfl rfl h (fun e x I' H' cls d hm z => x _ H' cls d hm z.clear) fun t13 I H v hE h => ?_
      refine uCons ?_
      refine st_var hE (i := 7) rfl fun v hE => ?_
      refine uNil ?_
      refine st_call (t13, t12) hE rfl rfl h (fun e x I' H' cls d hm z => x _ H' cls d hm z.clear) fun t14 I H v hE h => ?_
      refine st_vb hE fun hE => ?_
      exact h _ _ hE
  refine st_ite h (fun h => ?_) (fun h => ?_)
  ·
    refine uRet ?_
    refine st_push hE (hf_c (a := false) rfl trivial) fun hE => ?_
    exact h _ _ _ hE.only0
  ·
    refine uNext (uSeq (uAsg (uMakeS (uCons (uCB (uCons ?_))))))
    refine st_var hE (i := 4) rfl fun v hE => ?_
    refine uNil ?_
    refine st_listI hE fun I H v hE => ?_
    refine uNil ?_
    refine st_make t9.1 hE rfl rfl T.ko_Polynomial.at_ h (fun e x I' H' cls d hm z => x _ H' cls d hm z.clear) fun t16 I H v hE h => ?_
    refine st_name hE h fun three hE h => ?_
    refine st_store (Γ' := [.own (t9.2 : (List Int)) (some v0), .im (t3 : Int), .im (t5.1 : (List Int)), .im (t7.1 : (List Int)), .im (t9.1 : (List Int)), .im (one : O_Polynomial), .im (two : O_Polynomial), .im (t12 : (List Int)), .im (three : O_Polynomial), .any, .any]) hE rfl (by decide : (8 : Nat) < 11) fun σ hE => ?_
    refine uSeq (uIf ?_)
    refine st_tj hE (fun (s : Unit) => [.own (t9.2 : (List Int)) (some v0), .im (t3 : Int), .im (t5.1 : (List Int)), .im (t7.1 : (List Int)), .im (t9.1 : (List Int)), .im (one : O_Polynomial), .im (two : O_Polynomial), .im (t12 : (List Int)), .im (three : O_Polynomial), .any, .any]) h (fun h => ?_) (fun b19 s I H hE h => ?_)
    ·
      refine uOr (uNot (uB (uCallS (uCons ?_))))
      refine st_var hE (i := 5) rfl fun v hE => ?_
      refine uCons ?_
      refine st_var hE (i := 8) rfl fun v hE => ?_
      refine uNil ?_
      refine st_call (one, three) hE rfl rfl h (fun e x I' H' cls d hm z => x _ H' cls d hm z.clear) fun t17 I H v hE h => ?_
      refine st_vb hE fun hE => ?_
      refine st_ite h (fun h => ?_) (fun h => ?_)
      ·
        exact h _ _ hE
      ·
        refine uNot (uB (uCallS (uCons ?_)))
        refine st_var hE (i := 8) rfl fun v hE => ?_
        refine uCons ?_
        refine st_var hE (i := 5) rfl fun v hE => ?_
        refine uNil ?_
        refine st_call (three, one) hE rfl rfl h (fun e x I' H' cls d hm z => x _ H' cls d hm z.clear) fun t18 I H v hE h => ?_
        refine st_vb hE fun hE => ?_
        exact h _ _ hE
    refine st_ite h (fun h => ?_) (fun h => ?_)
    ·
      refine uRet ?_
      refine st_push hE (hf_c (a := false) rfl trivial) fun hE => ?_
      exact h _ _ _ hE.only0
    ·
      refine uNext (uSeq (uIf ?_))
      refine st_tj hE (fun (s : Unit) => [.own (t9.2 : (List Int)) (some v0), .im (t3 : Int), .im (t5.1 : (List Int)), .im (t7.1 : (List Int)), .im (t9.1 : (List Int)), .im (one : O_Polynomial), .im (two : O_Polynomial), .im (t12 : (List Int)), .im (three : O_Polynomial), .any, .any]) h (fun h => ?_) (fun b25 s I H hE h => ?_)
      ·
        refine uOr (uNot (uB (uCallS (uCons (uBinS ?_)))))
        refine st_var hE (i := 6) rfl fun v hE => ?_
        refine st_var hE (i := 5) rfl fun v hE => ?_
        refine st_smG hE T.ko_Polynomial ?_
        refine st_call (two, one) hE rfl rfl h (fun e x I' H' cls d hm z => x _ H' cls d hm z.clear) fun t20 I H v hE h => ?_
        refine uCons ?_
        refine st_var hE (i := 7) rfl fun v hE => ?_
        refine uNil ?_
        refine st_call (t20, t12) hE rfl rfl h (fun e x I' H' cls d hm z => x _ H' cls d hm z.clear) fun t21 I H v hE h => ?_
        refine st_vb hE fun hE => ?_
        refine st_ite h (fun h => ?_) (fun h => ?_)
        ·
          exact h _ _ hE
        ·
          refine uNot (uB (uCallS (uCons (uBinS ?_))))
          refine st_var hE (i := 5) rfl fun v hE => ?_
          refine uMakeS (uCons (uLst (uCons ?_)))
          refine st_push hE (hf_c (a := (0 : Int)) rfl trivial) fun hE => ?_
          refine uCons ?_
          refine st_push hE (hf_c (a := (0 : Int)) rfl trivial) fun hE => ?_
          refine uNil ?_
          refine st_lstI (α := Int) _ [(0 : Int), (0 : Int)] rfl (by decide : (2 : Nat) ≤ line) hE fun I H v hE => ?_
          refine uNil ?_
          refine st_make [(0 : Int), (0 : Int)] hE rfl rfl T.ko_Polynomial.at_ h (fun e x I' H' cls d hm z => x _ H' cls d hm z.clear.nip) fun t22 I H v hE h => ?_
          refine st_smG hE T.ko_Polynomial ?_
          refine st_call (one, (Ob.mk t22 : O_Polynomial)) hE rfl rfl h (fun e x I' H' cls d hm z => x _ H' cls d hm z.clear) fun t23 I H v hE h => ?_
          refine uCons (uLst (uNil ?_))
          refine st_lstI (α := Int) [] [] rfl (Nat.zero_le _) hE fun I H v hE => ?_
          refine uNil ?_
          refine st_call (t23, ([] : List Int)) hE rfl rfl h (fun e x I' H' cls d hm z => x _ H' cls d hm z.clear) fun t24 I H v hE h => ?_
          refine st_vb hE fun hE => ?_
          exact h _ _ hE
      refine st_ite h (fun h => ?_) (fun h => ?_)
      ·
        refine uRet ?_
        refine st_push hE (hf_c (a := false) rfl trivial) fun hE => ?_
        exact h _ _ _ hE.only0
      ·
        refine uNext (uSeq (uIf (uNot (uB (uCallS (uCons (uBinS ?_)))))))
        refine st_var hE (i := 5) rfl fun v hE => ?_
        refine st_var hE (i := 6) rfl fun v hE => ?_
        refine st_smG hE T.ko_Polynomial ?_
        refine st_call (one, two) hE rfl rfl h (fun e x I' H' cls d hm z => x _ H' cls d hm z.clear) fun t26 I H v hE h => ?_
        refine uCons ?_
        refine st_var hE (i := 7) rfl fun v hE => ?_
        refine uCons (uLst (uCons ?_))
        refine st_push hE (hf_is (m := (.ok ((0 : Int) - (1000 : Int)))) (m' := .ok (-1000 : Int)) (hf_pp hr_sub (hf_c (a := (0 : Int)) rfl trivial) (hf_c (a := (1000 : Int)) rfl trivial)) (by decide +kernel)) fun hE => ?_
        refine uCons ?_
        refine st_push hE (hf_c (a := (1000 : Int)) rfl trivial) fun hE => ?_
        refine uNil ?_
        refine st_lstI (α := Int) _ [(-1000 : Int), (1000 : Int)] rfl (by decide : (2 : Nat) ≤ line) hE fun I H v hE => ?_
        refine uNil ?_
        refine st_call (t26, t12, [(-1000 : Int), (1000 : Int)]) hE rfl rfl h (fun e x I' H' cls d hm z => x _ H' cls d hm z.clear) fun t27 I H v hE h => ?_
        refine st_vb hE fun hE => ?_
        refine st_ite h (fun h => ?_) (fun h => ?_)
        ·
          refine uRet ?_
          refine st_push hE (hf_c (a := false) rfl trivial) fun hE => ?_
          exact h _ _ _ hE.only0
        ·
          refine uNext (uSeq (uAsg (uCallS (uCons ?_))))
          refine st_varO (i := 0) hE rfl fun va h0_27 => ?_
          refine uCons ?_
          refine st_push hE (hf_c (a := (100 : Int)) rfl trivial) fun hE => ?_
          refine uNil ?_
          refine st_callO (i := 0) (100 : Int) rfl h0_27 hE rfl rfl h (fun e x I' H' cls d hm z => x _ H' cls d hm z.clear) fun t29 I H v hE h => ?_
          refine st_store (Γ' := [.own (t29.2 : (List Int)) (some v0), .im (t3 : Int), .im (t5.1 : (List Int)), .im (t7.1 : (List Int)), .im (t9.1 : (List Int)), .im (one : O_Polynomial), .im (two : O_Polynomial), .im (t12 : (List Int)), .im (three : O_Polynomial), .im (t29.1 : (List Int)), .any]) hE rfl (by decide : (9 : Nat) < 11) fun σ hE => ?_
          refine uSeq (uIf ?_)
          refine st_tj hE (fun (s : Unit) => [.own (t29.2 : (List Int)) (some v0), .im (t3 : Int), .im (t5.1 : (List Int)), .im (t7.1 : (List Int)), .im (t9.1 : (List Int)), .im (one : O_Polynomial), .im (two : O_Polynomial), .im (t12 : (List Int)), .im (three : O_Polynomial), .im (t29.1 : (List Int)), .any]) h (fun h => ?_) (fun b34 s I H hE h => ?_)
          ·
            refine uOr (uNot (uB (uCallS (uCons (uMakeS (uCons (uCB (uCons ?_))))))))
            refine st_var hE (i := 9) rfl fun v hE => ?_
            refine uNil ?_
            refine st_listI hE fun I H v hE => ?_
            refine uNil ?_
            refine st_make t29.1 hE rfl rfl T.ko_Polynomial.at_ h (fun e x I' H' cls d hm z => x _ H' cls d hm z.clear) fun t30 I H v hE h => ?_
            refine uCons ?_
            refine st_var hE (i := 9) rfl fun v hE => ?_
            refine uNil ?_
            refine st_call ((Ob.mk t30 : O_Polynomial), t29.1) hE rfl rfl h (fun e x I' H' cls d hm z => x _ H' cls d hm z.clear) fun t31 I H v hE h => ?_
            refine st_vb hE fun hE => ?_
            refine st_ite h (fun h => ?_) (fun h => ?_)
            ·
              exact h _ _ hE
            ·
              refine uNot (uB (uCallS (uCons (uOp ?_))))
              refine st_var hE (i := 9) rfl fun v hE => ?_
              refine uLst (uCons ?_)
              refine st_push hE (hf_c (a := (0 : Int)) rfl trivial) fun hE => ?_
              refine uNil ?_
              refine st_lstI (α := Int) _ [(0 : Int)] rfl (by decide : (1 : Nat) ≤ line) hE fun I H v hE => ?_
              refine st_catI hE h fun t32 I H v hE h => ?_
              refine uNil ?_
              refine st_call t32 hE rfl rfl h (fun e x I' H' cls d hm z => x _ H' cls d hm z.clear) fun t33 I H v hE h => ?_
              refine st_vb hE fun hE => ?_
              exact h _ _ hE
          refine st_ite h (fun h => ?_) (fun h => ?_)
          ·
            refine uRet ?_
            refine st_push hE (hf_c (a := false) rfl trivial) fun hE => ?_
            exact h _ _ _ hE.only0
          ·
            refine uNext (uRet (uAndV (uCallS (uCons (uOp ?_)))))
            refine st_var hE (i := 9) rfl fun v hE => ?_
            refine uLst (uCons ?_)
            refine st_push hE (hf_c (a := (1 : Int)) rfl trivial) fun hE => ?_
            refine uNil ?_
            refine st_lstI (α := Int) _ [(1 : Int)] rfl (by decide : (1 : Nat) ≤ line) hE fun I H v hE => ?_
            refine st_catI hE h fun t35 I H v hE h => ?_
            refine uNil ?_
            refine st_call t35 hE rfl rfl h (fun e x I' H' cls d hm z => x _ H' cls d hm z.clear) fun t36 I H v hE h => ?_
            refine st_vb hE fun hE => ?_
            refine st_ite h (fun h => ?_) (fun h => ?_)
            ·
              refine uCallS (uCons (uLc ?_))
              refine it_rng1 hE (hf_pp hr_add (hf_c (a := (101 : Int)) rfl trivial) (hf_var rfl)) h fun xs37 h J hJ => ?_
              refine st_lcm (α := Int) (β := Int) (i := 10) hJ hE rfl h (fun ys38 I H v hE h => ?_) (fun k_ I H σ ρ' Θ' Qe hE h => ?_)
              rotate_left 1
              ·
                refine st_push hE (hf_c (a := (0 : Int)) rfl trivial) fun hE => ?_
                exact h _ _ _ hE
              refine st_freezeT hE fun I hE => ?_
              refine uNil ?_
              refine st_call ys38 hE rfl rfl h (fun e x I' H' cls d hm z => x _ H' cls d hm z.clear) fun t39 I H v hE h => ?_
              exact h _ _ _ hE.only0
            ·
              exact h _ _ _ (hE.pushS (α := Bool) (a := false) trivial).only0

theorem ok_law (T : Txt Pg w K mg) : FnOk Pg w K mg base (L2N.CX Pg w) 9 T.a_law T.d_law ["script"] (SpM K mg 1 (fun (a : Scr) => [.im a]) (fun a => m_law a) (fun b => .im b)) := by
  refine okN T.F_law sc_law (fun vs H Q E h => h.1) fun cdv A outer s H vs Q E hr h => ?_
  obtain ⟨hl, script, I, ρ, Θ, hE, h⟩ := h
  have hE : Env K I H (start N_law vs) [.im (script : Scr), .any, .any, .any, .any, .any, .any, .any, .any, .any, .any, .any] ρ Θ := st_start hE (by rw [hl]; first | rfl | done)
  refine ⟨_, (pss_cons (ps_set (i := 1) sc_law.nd rfl (.inl rfl) (pe_callS (ok_law_pool (base := base) T) (hr.mono (by decide)) (by rfl) T.g_law_pool T.F_law_pool.kp T.b_law_pool (fun σ => L2N.passAt (L2N.takes_of rfl rfl rfl rfl) σ) (pa_cons (pv 0) pa_nil)))
      (pss_cons (ps_set (i := 2) sc_law.nd rfl (.inl rfl) (pe_callS (ok_law_list (base := base) T) (hr.mono (by decide)) (by rfl) T.g_law_list T.F_law_list.kp T.b_law_list (fun σ => L2N.passAt (L2N.takes_of rfl rfl rfl rfl) σ) (pa_cons (pv 1) pa_nil)))
      (pss_cons (ps_set (i := 3) sc_law.nd rfl (.inl rfl) (pe_callS (ok_law_list (base := base) T) (hr.mono (by decide)) (by rfl) T.g_law_list T.F_law_list.kp T.b_law_list (fun σ => L2N.passAt (L2N.takes_of rfl rfl rfl rfl) σ) (pa_cons (pv 1) pa_nil)))
      (pss_cons (ps_set (i := 4) sc_law.nd rfl (.inl rfl) (pe_callS (ok_law_trimmed (base := base) T) (hr.mono (by decide)) (by rfl) T.g_law_trimmed T.F_law_trimmed.kp T.b_law_trimmed (fun σ => L2N.passAt (L2N.takes_of rfl rfl rfl rfl) σ) (pa_cons (pv 2) pa_nil)))
      (pss_cons (ps_set (i := 5) sc_law.nd rfl (.inl rfl) (pe_callS (ok_law_trimmed (base := base) T) (hr.mono (by decide)) (by rfl) T.g_law_trimmed T.F_law_trimmed.kp T.b_law_trimmed (fun σ => L2N.passAt (L2N.takes_of rfl rfl rfl rfl) σ) (pa_cons (pv 3) pa_nil)))
      (pss_cons (ps_set (i := 6) sc_law.nd rfl (.inl rfl) (pe_lstOf (K := K) rfl (by rfl) T.z_list (by decide +kernel) (pa_cons (pv 2) pa_nil)))
      (pss_cons (ps_set (i := 7) sc_law.nd rfl (.inl rfl) (pe_makeS T.mk_Polynomial___init (ok_Polynomial___init (base := base) T) (hr.mono (by decide)) (by rfl) T.gC_Polynomial T.b_Polynomial___init (fun σ => L2N.passAt (L2N.takes_of rfl rfl rfl rfl) σ) (pa_cons (pv 6) pa_nil)))
      (pss_cons (ps_if (pt_cmpR (op_neD hr.units) (pv 6) (pv 2) (nomark _)) (pss_one (ps_ret pe_bl)) pss_nil)
      (pss_cons (ps_expr (pe_bm PySem.F.plainAttrs_list PySem.F.slot_list_append PySem.F.type_list_append mt_append (pv 6) (pa_cons (pe_op op_add pe_int (pe_callB call_len_seq (by rfl) T.z_len PySem.boot_len (pa_cons (pv 2) pa_nil))) pa_nil)))
      (pss_cons (ps_asg (pe_op op_add (pe_ix ix_list (pv 6) pe_int (fun _ _ => rfl)) pe_int) (pg_sub (pv 6) pe_int set_list))
      (pss_cons (ps_set (i := 8) sc_law.nd rfl (.inl rfl) (pe_makeS T.mk_Polynomial___init___v2 (ok_Polynomial___init___v2 (base := base) T) (hr.mono (by decide)) (by rfl) T.gC_Polynomial T.b_Polynomial___init___v2 (fun σ => L2N.passAt (L2N.takes_of rfl rfl rfl rfl) σ) (pa_cons (pe_callTy call_tuple_of (by rfl) T.z_tuple (by decide +kernel) (pa_cons (pv 3) pa_nil)) pa_nil)))
      (pss_cons (ps_for (passes_of rfl) rfl (pi_range1 (by rfl) T.z_range (pa_cons pe_int pa_nil)) (pg_name (i := 9) sc_law.nd rfl (.inl rfl)) (pss_cons (ps_if (pt_not (pt_val (pe_callS (ok_law_sums (base := base) T) (hr.mono (by decide)) (by rfl) T.g_law_sums T.F_law_sums.kp T.b_law_sums (fun σ => L2N.passAt (L2N.takes_of rfl rfl rfl rfl) σ) (pa_cons (pv 7) (pa_cons (pv 4) (pa_cons (pv 8) (pa_cons (pv 5) pa_nil))))))) (pss_one (ps_ret pe_bl)) pss_nil)
      (pss_one (ps_if (pt_not (pt_val (pe_callS (ok_law_sums (base := base) T) (hr.mono (by decide)) (by rfl) T.g_law_sums T.F_law_sums.kp T.b_law_sums (fun σ => L2N.passAt (L2N.takes_of rfl rfl rfl rfl) σ) (pa_cons (pv 8) (pa_cons (pv 5) (pa_cons (pv 7) (pa_cons (pv 4) pa_nil))))))) (pss_one (ps_ret pe_bl)) pss_nil))))
      (pss_cons (ps_set (i := 10) sc_law.nd rfl (.inl rfl) (pe_makeS T.mk_Polynomial___init (ok_Polynomial___init (base := base) T) (hr.mono (by decide)) (by rfl) T.gC_Polynomial T.b_Polynomial___init (fun σ => L2N.passAt (L2N.takes_of rfl rfl rfl rfl) σ) (pa_cons (pe_lst pa_nil) pa_nil)))
      (pss_cons (ps_if (PW.pt (pw_or (pt_not (pt_val (pe_callS (ok_law_is (base := base) T) (hr.mono (by decide)) (by rfl) T.g_law_is T.F_law_is.kp T.b_law_is (fun σ => L2N.passAt (L2N.takes_of rfl rfl rfl rfl) σ) (pa_cons (pv 10) (pa_cons (pe_lst pa_nil) pa_nil))))) (pw_or1 (pt_not (pt_val (pe_callS (ok_law_sums (base := base) T) (hr.mono (by decide)) (by rfl) T.g_law_sums T.F_law_sums.kp T.b_law_sums (fun σ => L2N.passAt (L2N.takes_of rfl rfl rfl rfl) σ) (pa_cons (pv 7) (pa_cons (pv 4) (pa_cons (pv 10) (pa_cons (pe_lst pa_nil) pa_nil)))))))))) (pss_one (ps_ret pe_bl)) pss_nil)
      (pss_cons (ps_if (PW.pt (pw_or (pt_not (pt_val (pe_callS (ok_law_is (base := base) T) (hr.mono (by decide)) (by rfl) T.g_law_is T.F_law_is.kp T.b_law_is (fun σ => L2N.passAt (L2N.takes_of rfl rfl rfl rfl) σ) (pa_cons (pe_binS (pv 7) (pv 7) T.bo_Polynomial___sub (ok_Polynomial___sub (base := base) T) (hr.mono (by decide)) T.b_Polynomial___sub (fun σ => L2N.passAt (L2N.takes_of rfl rfl rfl rfl) σ)) (pa_cons (pe_lst pa_nil) pa_nil))))) (pw_or1 (pt_not (pt_val (pe_callS (ok_law_sums (base := base) T) (hr.mono (by decide)) (by rfl) T.g_law_sums T.F_law_sums.kp T.b_law_sums (fun σ => L2N.passAt (L2N.takes_of rfl rfl rfl rfl) σ) (pa_cons (pv 7) (pa_cons (pv 4) (pa_cons (pv 7) (pa_cons (pv 4) pa_nil)))))))))) (pss_one (ps_ret pe_bl)) pss_nil)
      (pss_cons (ps_set (i := 11) sc_law.nd rfl (.inl rfl) (pe_lst (pa_cons (pe_op op_sub (pe_callS (ok_law_take (base := base) T) (hr.mono (by decide)) (by rfl) T.g_law_take T.F_law_take.kp T.b_law_take (fun σ => L2N.passAt (L2N.takes_of rfl rfl rfl rfl) σ) (pa_cons (pv 1) (pa_cons pe_int pa_nil))) pe_int) (pa_cons (pe_op op_sub pe_int pe_int) (pa_cons pe_int (pa_cons (pe_op op_sub pe_int pe_int) (pa_cons pe_int (pa_cons pe_int (pa_cons pe_int pa_nil)))))))))
      (pss_cons (ps_if (PW.pt (pw_or (pt_not (pt_val (pe_callS (ok_law_values (base := base) T) (hr.mono (by decide)) (by rfl) T.g_law_values T.F_law_values.kp T.b_law_values (fun σ => L2N.passAt (L2N.takes_of rfl rfl rfl rfl) σ) (pa_cons (pv 7) (pa_cons (pv 4) (pa_cons (pv 11) pa_nil)))))) (pw_or1 (pt_not (pt_val (pe_callS (ok_law_values (base := base) T) (hr.mono (by decide)) (by rfl) T.g_law_values T.F_law_values.kp T.b_law_values (fun σ => L2N.passAt (L2N.takes_of rfl rfl rfl rfl) σ) (pa_cons (pv 8) (pa_cons (pv 5) (pa_cons (pv 11) pa_nil))))))))) (pss_one (ps_ret pe_bl)) pss_nil)
      (pss_cons (ps_if (PW.pt (pw_or (pt_not (pt_val (pe_callS (ok_law_values (base := base) T) (hr.mono (by decide)) (by rfl) T.g_law_values T.F_law_values.kp T.b_law_values (fun σ => L2N.passAt (L2N.takes_of rfl rfl rfl rfl) σ) (pa_cons (pv 10) (pa_cons (pe_lst pa_nil) (pa_cons (pv 11) pa_nil)))))) (pw_or1 (pt_not (pt_val (pe_callS (ok_law_unlike (base := base) T) (hr.mono (by decide)) (by rfl) T.g_law_unlike T.F_law_unlike.kp T.b_law_unlike (fun σ => L2N.passAt (L2N.takes_of rfl rfl rfl rfl) σ) (pa_cons (pv 7) (pa_cons (pv 4) pa_nil)))))))) (pss_one (ps_ret pe_bl)) pss_nil)
      (pss_cons (ps_if (PW.pt (pw_or (pt_not (pt_val (pe_callS (ok_law_unlike (base := base) T) (hr.mono (by decide)) (by rfl) T.g_law_unlike T.F_law_unlike.kp T.b_law_unlike (fun σ => L2N.passAt (L2N.takes_of rfl rfl rfl rfl) σ) (pa_cons (pv 8) (pa_cons (pv 5) pa_nil))))) (pw_or1 (pt_not (pt_val (pe_callS (ok_law_bounds (base := base) T) (hr.mono (by decide)) (by rfl) T.g_law_bounds T.F_law_bounds.kp T.b_law_bounds (fun σ => L2N.passAt (L2N.takes_of rfl rfl rfl rfl) σ) (pa_cons (pv 1) (pa_cons (pv 7) pa_nil)))))))) (pss_one (ps_ret pe_bl)) pss_nil)
      (pss_one (ps_ret (pe_and (pe_callS (ok_law_limits (base := base) T) (hr.mono (by decide)) (by rfl) T.g_law_limits T.F_law_limits.kp T.b_law_limits (fun σ => L2N.passAt (L2N.takes_of rfl rfl rfl rfl) σ) (pa_cons (pv 1) pa_nil)) (pe_and (pe_callS (ok_law_is (base := base) T) (hr.mono (by decide)) (by rfl) T.g_law_is T.F_law_is.kp T.b_law_is (fun σ => L2N.passAt (L2N.takes_of rfl rfl rfl rfl) σ) (pa_cons (pv 7) (pa_cons (pv 4) pa_nil))) (pe_one (pe_callS (ok_law_is (base := base) T) (hr.mono (by decide)) (by rfl) T.g_law_is T.F_law_is.kp T.b_law_is (fun σ => L2N.passAt (L2N.takes_of rfl rfl rfl rfl) σ) (pa_cons (pv 8) (pa_cons (pv 5) pa_nil))))))))))))))))))))))))))), ?_⟩
  generalize start N_law vs = σ at hE ⊢
  change wp (m_law script) _ _ at h
  unfold m_law at h
  refine uSeq (uAsg (uCallS (uCons ?_)))
  refine st_var hE (i := 0) rfl fun v hE => ?_
  refine uNil ?_
  refine st_call script hE rfl rfl h (fun e x I' H' cls d hm z => x _ H' cls d hm z.clear) fun t1 I H v hE h => ?_
  refine st_store (Γ' := [.im (script : Scr), .own (t1 : (List Int)), .any, .any, .any, .any, .any, .any, .any, .any, .any, .any]) hE rfl (by decide : (1 : Nat) < 12) fun σ hE => ?_
  refine uSeq (uAsg (uCallS (uCons ?_)))
  refine st_varO (i := 1) hE rfl fun va h0_1 => ?_
  refine uNil ?_
  refine st_callO (i := 1) () rfl h0_1 hE rfl rfl h (fun e x I' H' cls d hm z => x _ H' cls d hm z.clear) fun t3 I H v hE h => ?_
  refine st_store (Γ' := [.im (script : Scr), .own (t3.2 : (List Int)), .im (t3.1 : (List Int)), .any, .any, .any, .any, .any, .any, .any, .any, .any]) hE rfl (by decide : (2 : Nat) < 12) fun σ hE => ?_
  refine uSeq (uAsg (uCallS (uCons ?_)))
  refine st_varO (i := 1) hE rfl fun va h0_3 => ?_
  refine uNil ?_
  refine st_callO (i := 1) () rfl h0_3 hE rfl rfl h (fun e x I' H' cls d hm z => x _ H' cls d hm z.clear) fun t5 I H v hE h => ?_
  refine st_store (Γ' := [.im (script : Scr), .own (t5.2 : (List Int)), .im (t3.1 : (List Int)), .im (t5.1 : (List Int)), .any, .any, .any, .any, .any, .any, .any, .any]) hE rfl (by decide : (3 : Nat) < 12) fun σ hE => ?_
  refine uSeq (uAsg (uCallS (uCons ?_)))
  refine st_var hE (i := 2) rfl fun v hE => ?_
  refine uNil ?_
  refine st_call t3.1 hE rfl rfl h (fun e x I' H' cls d hm z => x _ H' cls d hm z.clear) fun t6 I H v hE h => ?_
  refine st_store (Γ' := [.im (script : Scr), .own (t5.2 : (List Int)), .im (t3.1 : (List Int)), .im (t5.1 : (List Int)), .im (t6 : (List Int)), .any, .any, .any, .any, .any, .any, .any]) hE rfl (by decide : (4 : Nat) < 12) fun σ hE => ?_
  refine uSeq (uAsg (uCallS (uCons ?_)))
  refine st_var hE (i := 3) rfl fun v hE => ?_
  refine uNil ?_
  refine st_call t5.1 hE rfl rfl h (fun e x I' H' cls d hm z => x _ H' cls d hm z.clear) fun t7 I H v hE h => ?_
  refine st_store (Γ' := [.im (script : Scr), .own (t5.2 : (List Int)), .im (t3.1 : (List Int)), .im (t5.1 : (List Int)), .im (t6 : (List Int)), .im (t7 : (List Int)), .any, .any, .any, .any, .any, .any]) hE rfl (by decide : (5 : Nat) < 12) fun σ hE => ?_
  refine uSeq (uAsg (uCB (uCons ?_)))
  refine st_var hE (i := 2) rfl fun v hE => ?_
  refine uNil ?_
  refine st_listO hE fun H v hE => ?_
  refine st_store (Γ' := [.im (script : Scr), .own (t5.2 : (List Int)), .im (t3.1 : (List Int)), .im (t5.1 : (List Int)), .im (t6 : (List Int)), .im (t7 : (List Int)), .own (t3.1 : (List Int)), .any, .any, .any, .any, .any]) hE rfl (by decide : (6 : Nat) < 12) fun σ hE => ?_
  refine uSeq (uAsg ?_)
  skip
  obtain ⟨I8_0, s8_0, hE8_0⟩ := hE.let (i := 6) rfl
  obtain ⟨S8, hE, backX8, backN8⟩ := hE.borrowN hE8_0 s8_0
  replace hE : Env K _ _ _ [.im (script : Scr), .any, .im (t3.1 : (List Int)), .im (t5.1 : (List Int)), .im (t6 : (List Int)), .im (t7 : (List Int)), .im (t3.1 : (List Int)), .any, .any, .any, .any, .any] _ _ := hE
  refine uMakeS (uCons ?_)
  refine st_var hE (i := 6) rfl fun v hE => ?_
  refine uNil ?_
  refine st_make t3.1 hE rfl rfl T.ko_Polynomial.at_ h (fun e x I' H' cls d hm z => let ⟨_, z⟩ := backX8 z; x _ H' cls d hm z.clear) fun t9 I H v hE h => ?_
  obtain ⟨I, hE⟩ := backN8 hE
  refine st_name hE h fun one hE h => ?_
  refine st_store (Γ' := [.im (script : Scr), .own (t5.2 : (List Int)), .im (t3.1 : (List Int)), .im (t5.1 : (List Int)), .im (t6 : (List Int)), .im (t7 : (List Int)), .own (t3.1 : (List Int)), .im (one : O_Polynomial), .any, .any, .any, .any]) hE rfl (by decide : (7 : Nat) < 12) fun σ hE => ?_
  refine uSeq (uIf (uTest ?_))
  skip
  obtain ⟨I10_0, s10_0, hE10_0⟩ := hE.let (i := 6) rfl
  obtain ⟨S10, hE, back10, backX10, backO10⟩ := hE.borrowO hE10_0 s10_0
  replace hE : Env K _ _ _ [.im (script : Scr), .any, .im (t3.1 : (List Int)), .im (t5.1 : (List Int)), .im (t6 : (List Int)), .im (t7 : (List Int)), .im (t3.1 : (List Int)), .im (one : O_Polynomial), .any, .any, .any, .any] _ _ := hE
  refine uOp ?_
  refine st_var hE (i := 6) rfl fun v hE => ?_
  refine st_var hE (i := 2) rfl fun v hE => ?_
  refine st_neD hE (by decide) h fun t11 v hE h => ?_
  replace hE := back10 hE
  refine st_vb hE fun hE => ?_
  refine st_ite h (fun h => ?_) (fun h => ?_)
  ·
    exact st_ret hE (hf_c (a := false) rfl trivial) h
  ·
    refine uNext (uSeq (uDrop ?_))
    refine st_bmO (i := 6) hE rfl fun l11 hl_l11 => ?_
    refine uCons ?_
    refine st_push hE (hf_pp hr_add (hf_c (a := (1 : Int)) rfl trivial) (hf_lenL (hΓ := rfl))) fun hE => ?_
    refine uNil ?_
    refine st_app (i := 6) hE hl_l11 rfl h fun handed H hE h => ?_
    replace hE : Env K _ _ _ [.im (script : Scr), .own (t5.2 : (List Int)), .im (t3.1 : (List Int)), .im (t5.1 : (List Int)), .im (t6 : (List Int)), .im (t7 : (List Int)), .own (handed : (List Int)), .im (one : O_Polynomial), .any, .any, .any, .any] _ _ := hE
    refine uSeq (uAsg ?_)
    refine st_pushm hE (hf_mp (fun _ => hr_add) (hf_ixOp rfl (hf_c (a := (0 : Int)) rfl trivial)) (hf_c (a := (5 : Int)) rfl trivial)) h fun t14 hE h => ?_
    refine st_setLp (i := 6) (Γ' := fun (handed : (List Int)) => [.im (script : Scr), .own (t5.2 : (List Int)), .im (t3.1 : (List Int)), .im (t5.1 : (List Int)), .im (t6 : (List Int)), .im (t7 : (List Int)), .own (handed : (List Int)), .im (one : O_Polynomial), .any, .any, .any, .any]) hE rfl (hf_c (a := (0 : Int)) rfl trivial) h (fun _ => rfl) fun handed H hE h => ?_
    refine uSeq (uAsg (uMakeS (uCons (uCB (uCons ?_)))))
    refine st_var hE (i := 3) rfl fun v hE => ?_
    refine uNil ?_
    refine st_tupleOf hE fun I H v hE => ?_
    refine uNil ?_
    refine st_make (TupL.mk t5.1) hE rfl rfl T.ko_Polynomial.at_ h (fun e x I' H' cls d hm z => x _ H' cls d hm z.clear) fun t15 I H v hE h => ?_
    refine st_name hE h fun two hE h => ?_
    refine st_store (Γ' := [.im (script : Scr), .own (t5.2 : (List Int)), .im (t3.1 : (List Int)), .im (t5.1 : (List Int)), .im (t6 : (List Int)), .im (t7 : (List Int)), .own (handed : (List Int)), .im (one : O_Polynomial), .im (two : O_Polynomial), .any, .any, .any]) hE rfl (by decide : (8 : Nat) < 12) fun σ hE => ?_
    refine uSeq (uFor ?_)
    refine it_rng1 hE (hf_c (a := (2 : Int)) rfl trivial) h fun xs16 h J hJ => ?_
    refine st_for (α := Int) hJ (RetP K ρ Θ (fun b => .im b) Q) (fun (_ : Unit) => [.im (script : Scr), .own (t5.2 : (List Int)), .im (t3.1 : (List Int)), .im (t5.1 : (List Int)), .im (t6 : (List Int)), .im (t7 : (List Int)), .own (handed : (List Int)), .im (one : O_Polynomial), .im (two : O_Polynomial), .any, .any, .any]) hE ⟨.inr rfl, .inr rfl, .inr rfl, .inr rfl, .inr rfl, .inr rfl, .inr rfl, .inr rfl, .inr rfl, .inl rfl, .inl rfl, .inl rfl, trivial⟩ h (fun r h => h) (fun k_ s I H σ v N B hE h => ?_) (fun s I H σ hE h => ?_)
    ·
      refine st_store (Γ' := [.im (script : Scr), .own (t5.2 : (List Int)), .im (t3.1 : (List Int)), .im (t5.1 : (List Int)), .im (t6 : (List Int)), .im (t7 : (List Int)), .own (handed : (List Int)), .im (one : O_Polynomial), .im (two : O_Polynomial), .im (k_ : Int), .any, .any]) hE rfl (by decide : (9 : Nat) < 12) fun σ hE => ?_
      refine uSeq (uIf (uNot (uB (uCallS (uCons ?_)))))
      refine st_var hE (i := 7) rfl fun v hE => ?_
      refine uCons ?_
      refine st_var hE (i := 4) rfl fun v hE => ?_
      refine uCons ?_
      refine st_var hE (i := 8) rfl fun v hE => ?_
      refine uCons ?_
      refine st_var hE (i := 5) rfl fun v hE => ?_
      refine uNil ?_
      refine st_call (one, t6, two, t7) hE rfl rfl h (fun e x I' H' cls d hm z => x _ H' cls d hm z.clear) fun t17 I H v hE h => ?_
      refine st_vb hE fun hE => ?_
      refine st_ite h (fun h => ?_) (fun h => ?_)
      ·
        exact st_ret hE (hf_c (a := false) rfl trivial) h
      ·
        refine uNext (uIf (uNot (uB (uCallS (uCons ?_)))))
        refine st_var hE (i := 8) rfl fun v hE => ?_
        refine uCons ?_
        refine st_var hE (i := 5) rfl fun v hE => ?_
        refine uCons ?_
        refine st_var hE (i := 7) rfl fun v hE => ?_
        refine uCons ?_
        refine st_var hE (i := 4) rfl fun v hE => ?_
        refine uNil ?_
        refine st_call (two, t7, one, t6) hE rfl rfl h (fun e x I' H' cls d hm z => x _ H' cls d hm z.clear) fun t18 I H v hE h => ?_
        refine st_vb hE fun hE => ?_
        refine st_ite h (fun h => ?_) (fun h => ?_)
        ·
          exact st_ret hE (hf_c (a := false) rfl trivial) h
        ·
          refine uNext ?_
          exact h _ _ _ (hE.weak (Γ' := [.im (script : Scr), .own (t5.2 : (List Int)), .im (t3.1 : (List Int)), .im (t5.1 : (List Int)), .im (t6 : (List Int)), .im (t7 : (List Int)), .own (handed : (List Int)), .im (one : O_Polynomial), .im (two : O_Polynomial), .any, .any, .any]) ⟨.inr rfl, .inr rfl, .inr rfl, .inr rfl, .inr rfl, .inr rfl, .inr rfl, .inr rfl, .inr rfl, .inl rfl, .inl rfl, .inl rfl, trivial⟩)
    refine uSeq (uAsg (uMakeS (uCons (uLst (uNil ?_)))))
    refine st_lstI (α := Int) [] [] rfl (Nat.zero_le _) hE fun I H v hE => ?_
    refine uNil ?_
    refine st_make ([] : List Int) hE rfl rfl T.ko_Polynomial.at_ h (fun e x I' H' cls d hm z => x _ H' cls d hm z.clear) fun t20 I H v hE h => ?_
    refine st_name hE h fun none hE h => ?_
    refine st_store (Γ' := [.im (script : Scr), .own (t5.2 : (List Int)), .im (t3.1 : (List Int)), .im (t5.1 : (List Int)), .im (t6 : (List Int)), .im (t7 : (List Int)), .own (handed : (List Int)), .im (one : O_Polynomial), .im (two : O_Polynomial), .any, .im (none : O_Polynomial), .any]) hE rfl (by decide : (10 : Nat) < 12) fun σ hE => ?_
    refine uSeq (uIf ?_)
    refine st_tj hE (fun (s : Unit) => [.im (script : Scr), .own (t5.2 : (List Int)), .im (t3.1 : (List Int)), .im (t5.1 : (List Int)), .im (t6 : (List Int)), .im (t7 : (List Int)), .own (handed : (List Int)), .im (one : O_Polynomial), .im (two : O_Polynomial), .any, .im (none : O_Polynomial), .any]) h (fun h => ?_) (fun b23 s I H hE h => ?_)
    ·
      refine uOr (uNot (uB (uCallS (uCons ?_))))
      refine st_var hE (i := 10) rfl fun v hE => ?_
      refine uCons (uLst (uNil ?_))
      refine st_lstI (α := Int) [] [] rfl (Nat.zero_le _) hE fun I H v hE => ?_
      refine uNil ?_
      refine st_call (none, ([] : List Int)) hE rfl rfl h (fun e x I' H' cls d hm z => x _ H' cls d hm z.clear) fun t21 I H v hE h => ?_
      refine st_vb hE fun hE => ?_
      refine st_ite h (fun h => ?_) (fun h => ?_)
      ·
        exact h _ _ hE
      ·
        refine uNot (uB (uCallS (uCons ?_)))
        refine st_var hE (i := 7) rfl fun v hE => ?_
        refine uCons ?_
        refine st_var hE (i := 4) rfl fun v hE => ?_
        refine uCons ?_
        refine st_var hE (i := 10) rfl fun v hE => ?_
        refine uCons (uLst (uNil ?_))
        refine st_lstI (α := Int) [] [] rfl (Nat.zero_le _) hE fun I H v hE => ?_
        refine uNil ?_
        refine st_call (one, t6, none, ([] : List Int)) hE rfl rfl h (fun e x I' H' cls d hm z => x _ H' cls d hm z.clear) fun t22 I H v hE h => ?_
        refine st_vb hE fun hE => ?_
        exact h _ _ hE
    refine st_ite h (fun h => ?_) (fun h => ?_)
    ·
      exact st_ret hE (hf_c (a := false) rfl trivial) h
    ·
      refine uNext (uSeq (uIf ?_))
      refine st_tj hE (fun (s : Unit) => [.im (script : Scr), .own (t5.2 : (List Int)), .im (t3.1 : (List Int)), .im (t5.1 : (List Int)), .im (t6 : (List Int)), .im (t7 : (List Int)), .own (handed : (List Int)), .im (one : O_Polynomial), .im (two : O_Polynomial), .any, .im (none : O_Polynomial), .any]) h (fun h => ?_) (fun b27 s I H hE h => ?_)
      ·
        refine uOr (uNot (uB (uCallS (uCons (uBinS ?_)))))
        refine st_var hE (i := 7) rfl fun v hE => ?_
        refine st_var hE (i := 7) rfl fun v hE => ?_
        refine st_smG hE T.ko_Polynomial ?_
        refine st_call (one, one) hE rfl rfl h (fun e x I' H' cls d hm z => x _ H' cls d hm z.clear) fun t24 I H v hE h => ?_
        refine uCons (uLst (uNil ?_))
        refine st_lstI (α := Int) [] [] rfl (Nat.zero_le _) hE fun I H v hE => ?_
        refine uNil ?_
        refine st_call (t24, ([] : List Int)) hE rfl rfl h (fun e x I' H' cls d hm z => x _ H' cls d hm z.clear) fun t25 I H v hE h => ?_
        refine st_vb hE fun hE => ?_
        refine st_ite h (fun h => ?_) (fun h => ?_)
        ·
          exact h _ _ hE
        ·
          refine uNot (uB (uCallS (uCons ?_)))
          refine st_var hE (i := 7) rfl fun v hE => ?_
          refine uCons ?_
          refine st_var hE (i := 4) rfl fun v hE => ?_
          refine uCons ?_
          refine st_var hE (i := 7) rfl fun v hE => ?_
          refine uCons ?_
          refine st_var hE (i := 4) rfl fun v hE => ?_
          refine uNil ?_
          refine st_call (one, t6, one, t6) hE rfl rfl h (fun e x I' H' cls d hm z => x _ H' cls d hm z.clear) fun t26 I H v hE h => ?_
          refine st_vb hE fun hE => ?_
          exact h _ _ hE
      refine st_ite h (fun h => ?_) (fun h => ?_)
      ·
        exact st_ret hE (hf_c (a := false) rfl trivial) h
      ·
        refine uNext (uSeq (uAsg (uLst (uCons (uOp (uCallS (uCons ?_)))))))
        refine st_varO (i := 1) hE rfl fun va h0_27 => ?_
        refine uCons ?_
        refine st_push hE (hf_c (a := (2001 : Int)) rfl trivial) fun hE => ?_
        refine uNil ?_
        refine st_callO (i := 1) (2001 : Int) rfl h0_27 hE rfl rfl h (fun e x I' H' cls d hm z => x _ H' cls d hm z.clear) fun t29 I H v hE h => ?_
        refine st_push hE (hf_c (a := (1000 : Int)) rfl trivial) fun hE => ?_
        refine st_op2 hE hr_sub h fun t30 v hE h => ?_
        refine uCons ?_
        refine st_push hE (hf_is (m := (.ok ((0 : Int) - (1000 : Int)))) (m' := .ok (-1000 : Int)) (hf_pp hr_sub (hf_c (a := (0 : Int)) rfl trivial) (hf_c (a := (1000 : Int)) rfl trivial)) (by decide +kernel)) fun hE => ?_
        refine uCons ?_
        refine st_push hE (hf_c (a := (1000 : Int)) rfl trivial) fun hE => ?_
        refine uCons ?_
        refine st_push hE (hf_is (m := (.ok ((0 : Int) - (1 : Int)))) (m' := .ok (-1 : Int)) (hf_pp hr_sub (hf_c (a := (0 : Int)) rfl trivial) (hf_c (a := (1 : Int)) rfl trivial)) (by decide +kernel)) fun hE => ?_
        refine uCons ?_
        refine st_push hE (hf_c (a := (0 : Int)) rfl trivial) fun hE => ?_
        refine uCons ?_
        refine st_push hE (hf_c (a := (1 : Int)) rfl trivial) fun hE => ?_
        refine uCons ?_
        refine st_push hE (hf_c (a := (2 : Int)) rfl trivial) fun hE => ?_
        refine uNil ?_
        refine st_lstI (α := Int) _ [t30, (-1000 : Int), (1000 : Int), (-1 : Int), (0 : Int), (1 : Int), (2 : Int)] rfl (by decide : (7 : Nat) ≤ line) hE fun I H v hE => ?_
        refine st_name hE h fun numbers hE h => ?_
        refine st_store (Γ' := [.im (script : Scr), .own (t29.2 : (List Int)), .im (t3.1 : (List Int)), .im (t5.1 : (List Int)), .im (t6 : (List Int)), .im (t7 : (List Int)), .own (handed : (List Int)), .im (one : O_Polynomial), .im (two : O_Polynomial), .any, .im (none : O_Polynomial), .im (numbers : (List Int))]) hE rfl (by decide : (11 : Nat) < 12) fun σ hE => ?_
        refine uSeq (uIf ?_)
        refine st_tj hE (fun (s : Unit) => [.im (script : Scr), .own (t29.2 : (List Int)), .im (t3.1 : (List Int)), .im (t5.1 : (List Int)), .im (t6 : (List Int)), .im (t7 : (List Int)), .own (handed : (List Int)), .im (one : O_Polynomial), .im (two : O_Polynomial), .any, .im (none : O_Polynomial), .im (numbers : (List Int))]) h (fun h => ?_) (fun b33 s I H hE h => ?_)
        ·
          refine uOr (uNot (uB (uCallS (uCons ?_))))
          refine st_var hE (i := 7) rfl fun v hE => ?_
          refine uCons ?_
          refine st_var hE (i := 4) rfl fun v hE => ?_
          refine uCons ?_
          refine st_var hE (i := 11) rfl fun v hE => ?_
          refine uNil ?_
          refine st_call (one, t6, numbers) hE rfl rfl h (fun e x I' H' cls d hm z => x _ H' cls d hm z.clear) fun t31 I H v hE h => ?_
          refine st_vb hE fun hE => ?_
          refine st_ite h (fun h => ?_) (fun h => ?_)
          ·
            exact h _ _ hE
          ·
            refine uNot (uB (uCallS (uCons ?_)))
            refine st_var hE (i := 8) rfl fun v hE => ?_
            refine uCons ?_
            refine st_var hE (i := 5) rfl fun v hE => ?_
            refine uCons ?_
            refine st_var hE (i := 11) rfl fun v hE => ?_
            refine uNil ?_
            refine st_call (two, t7, numbers) hE rfl rfl h (fun e x I' H' cls d hm z => x _ H' cls d hm z.clear) fun t32 I H v hE h => ?_
            refine st_vb hE fun hE => ?_
            exact h _ _ hE
        refine st_ite h (fun h => ?_) (fun h => ?_)
        ·
          exact st_ret hE (hf_c (a := false) rfl trivial) h
        ·
          refine uNext (uSeq (uIf ?_))
          refine st_tj hE (fun (s : Unit) => [.im (script : Scr), .own (t29.2 : (List Int)), .im (t3.1 : (List Int)), .im (t5.1 : (List Int)), .im (t6 : (List Int)), .im (t7 : (List Int)), .own (handed : (List Int)), .im (one : O_Polynomial), .im (two : O_Polynomial), .any, .im (none : O_Polynomial), .im (numbers : (List Int))]) h (fun h => ?_) (fun b36 s I H hE h => ?_)
          ·
            refine uOr (uNot (uB (uCallS (uCons ?_))))
            refine st_var hE (i := 10) rfl fun v hE => ?_
            refine uCons (uLst (uNil ?_))
            refine st_lstI (α := Int) [] [] rfl (Nat.zero_le _) hE fun I H v hE => ?_
            refine uCons ?_
            refine st_var hE (i := 11) rfl fun v hE => ?_
            refine uNil ?_
            refine st_call (none, ([] : List Int), numbers) hE rfl rfl h (fun e x I' H' cls d hm z => x _ H' cls d hm z.clear) fun t34 I H v hE h => ?_
            refine st_vb hE fun hE => ?_
            refine st_ite h (fun h => ?_) (fun h => ?_)
            ·
              exact h _ _ hE
            ·
              refine uNot (uB (uCallS (uCons ?_)))
              refine st_var hE (i := 7) rfl fun v hE => ?_
              refine uCons ?_
              refine st_var hE (i := 4) rfl fun v hE => ?_
              refine uNil ?_
              refine st_call (one, t6) hE rfl rfl h (fun e x I' H' cls d hm z => x _ H' cls d hm z.clear) fun t35 I H v hE h => ?_
              refine st_vb hE fun hE => ?_
              exact h _ _ hE
          refine st_ite h (fun h => ?_) (fun h => ?_)
          ·
            exact st_ret hE (hf_c (a := false) rfl trivial) h
          ·
            refine uNext (uSeq (uIf ?_))
            refine st_tj hE (fun (s : (List Int)) => match s with | pool_ => [.im (script : Scr), .own (pool_ : (List Int)), .im (t3.1 : (List Int)), .im (t5.1 : (List Int)), .im (t6 : (List Int)), .im (t7 : (List Int)), .own (handed : (List Int)), .im (one : O_Polynomial), .im (two : O_Polynomial), .any, .im (none : O_Polynomial), .im (numbers : (List Int))]) h (fun h => ?_) (fun b40 s I H hE h => ?_)
            ·
              refine uOr (uNot (uB (uCallS (uCons ?_))))
              refine st_var hE (i := 8) rfl fun v hE => ?_
              refine uCons ?_
              refine st_var hE (i := 5) rfl fun v hE => ?_
              refine uNil ?_
              refine st_call (two, t7) hE rfl rfl h (fun e x I' H' cls d hm z => x _ H' cls d hm z.clear) fun t37 I H v hE h => ?_
              refine st_vb hE fun hE => ?_
              refine st_ite h (fun h => ?_) (fun h => ?_)
              ·
                exact h _ _ hE
              ·
                refine uNot (uB (uCallS (uCons ?_)))
                refine st_varO (i := 1) hE rfl fun va h0_37 => ?_
                refine uCons ?_
                refine st_var hE (i := 7) rfl fun v hE => ?_
                refine uNil ?_
                refine st_callO (i := 1) one rfl h0_37 hE rfl rfl h (fun e x I' H' cls d hm z => x _ H' cls d hm z.clear) fun t39 I H v hE h => ?_
                refine st_vb hE fun hE => ?_
                exact h _ _ hE
            revert hE h; revert s; intro pool_ hE h
            refine st_ite h (fun h => ?_) (fun h => ?_)
            ·
              exact st_ret hE (hf_c (a := false) rfl trivial) h
            ·
              refine uNext (uRet (uAndV (uCallS (uCons ?_))))
              refine st_varO (i := 1) hE rfl fun va h0_40 => ?_
              refine uNil ?_
              refine st_callO (i := 1) () rfl h0_40 hE rfl rfl h (fun e x I' H' cls d hm z => x _ H' cls d hm z.clear) fun t42 I H v hE h => ?_
              refine st_vb hE fun hE => ?_
              refine st_ite h (fun h => ?_) (fun h => ?_)
              ·
                refine uAndV (uCallS (uCons ?_))
                refine st_var hE (i := 7) rfl fun v hE => ?_
                refine uCons ?_
                refine st_var hE (i := 4) rfl fun v hE => ?_
                refine uNil ?_
                refine st_call (one, t6) hE rfl rfl h (fun e x I' H' cls d hm z => x _ H' cls d hm z.clear) fun t43 I H v hE h => ?_
                refine st_vb hE fun hE => ?_
                refine st_ite h (fun h => ?_) (fun h => ?_)
                ·
                  refine uCallS (uCons ?_)
                  refine st_var hE (i := 8) rfl fun v hE => ?_
                  refine uCons ?_
                  refine st_var hE (i := 5) rfl fun v hE => ?_
                  refine uNil ?_
                  refine st_call (two, t7) hE rfl rfl h (fun e x I' H' cls d hm z => x _ H' cls d hm z.clear) fun t44 I H v hE h => ?_
                  exact h _ _ _ hE.clear
                ·
                  exact h _ _ _ (hE.pushS (α := Bool) (a := false) trivial).clear
              ·
                exact h _ _ _ (hE.pushS (α := Bool) (a := false) trivial).clear
end
end G
namespace G
open PySem PySem.Spec PyProof.Rows L2 M
section
variable {Pg : Program} {w : World} {K : PySem.W.Frag} {mg : Str → Option Value} {base h : Heap}
abbrev si_OutOfBounds : Stmt := (clsBody (top 2)).getD 0 (.Pass ⟨0, 0, 0, 0⟩)
theorem ok_ini_OutOfBounds {C fI : Addr} {fd : FuncData} (F : Fun K "__init__" "OutOfBounds.__init__" si_OutOfBounds fI fd) (T : OexC K C) (hno : PySem.W.findIn K (.ref C) "value" = some none) : FnOk Pg w K mg base (L2N.CX Pg w) 1 fI fd ["self", "value"] (spIni C "value") := by
  refine okN F (N := ["self", "value"]) ⟨rfl, rfl, rfl, by decide +kernel, rfl, by decide +kernel, by decide +kernel⟩ (fun vs H Q E h => by obtain ⟨a, y, rfl, _⟩ := h; rfl) fun cdv A outer s H vs Q E hr h => ?_
  obtain ⟨a, y, rfl, ea, h⟩ := h
  exact ⟨_, pss_one (ps_ost (pv 0) (pv 1)), y, rfl, .ref a, rfl, a, C, rfl, T, hno, .inl ⟨ea, fun dx n ne => h dx n ne⟩⟩
abbrev si_TooMany : Stmt := (clsBody (top 3)).getD 0 (.Pass ⟨0, 0, 0, 0⟩)
theorem ok_ini_TooMany {C fI : Addr} {fd : FuncData} (F : Fun K "__init__" "TooMany.__init__" si_TooMany fI fd) (T : OexC K C) (hno : PySem.W.findIn K (.ref C) "most" = some none) : FnOk Pg w K mg base (L2N.CX Pg w) 1 fI fd ["self", "most"] (spIni C "most") := by
  refine okN F (N := ["self", "most"]) ⟨rfl, rfl, rfl, by decide +kernel, rfl, by decide +kernel, by decide +kernel⟩ (fun vs H Q E h => by obtain ⟨a, y, rfl, _⟩ := h; rfl) fun cdv A outer s H vs Q E hr h => ?_
  obtain ⟨a, y, rfl, ea, h⟩ := h
  exact ⟨_, pss_one (ps_ost (pv 0) (pv 1)), y, rfl, .ref a, rfl, a, C, rfl, T, hno, .inl ⟨ea, fun dx n ne => h dx n ne⟩⟩
theorem all_mk {fa : Addr} (X : K.In h) (G : h.Ns mainGlobals mg) (hfa : mg "law" = some (.ref fa))
    {C_Polynomial : Addr}
    {f_Polynomial___init : Addr} {od_Polynomial___init an_Polynomial___init : Option Addr} {sl_Polynomial___init : Array (Option Value)} {oc_Polynomial___init kV_Polynomial___init dc_Polynomial___init pm_Polynomial___init cd_Polynomial___init ct_Polynomial___init : Value}
    {f_Polynomial___init___v2 : Addr} {od_Polynomial___init___v2 an_Polynomial___init___v2 : Option Addr} {sl_Polynomial___init___v2 : Array (Option Value)} {oc_Polynomial___init___v2 kV_Polynomial___init___v2 dc_Polynomial___init___v2 pm_Polynomial___init___v2 cd_Polynomial___init___v2 ct_Polynomial___init___v2 : Value}
    {f_Polynomial_power : Addr} {od_Polynomial_power an_Polynomial_power : Option Addr} {sl_Polynomial_power : Array (Option Value)} {oc_Polynomial_power kV_Polynomial_power dc_Polynomial_power pm_Polynomial_power cd_Polynomial_power ct_Polynomial_power : Value}
    {p_Polynomial_power : Addr} {re_Polynomial_power : List Value}
    {f_Polynomial_degree : Addr} {od_Polynomial_degree an_Polynomial_degree : Option Addr} {sl_Polynomial_degree : Array (Option Value)} {oc_Polynomial_degree kV_Polynomial_degree dc_Polynomial_degree pm_Polynomial_degree cd_Polynomial_degree ct_Polynomial_degree : Value}
    {p_Polynomial_degree : Addr} {re_Polynomial_degree : List Value}
    {f_Polynomial___eq : Addr} {od_Polynomial___eq an_Polynomial___eq : Option Addr} {sl_Polynomial___eq : Array (Option Value)} {oc_Polynomial___eq kV_Polynomial___eq dc_Polynomial___eq pm_Polynomial___eq cd_Polynomial___eq ct_Polynomial___eq : Value}
    {f_Polynomial___eq___v2 : Addr} {od_Polynomial___eq___v2 an_Polynomial___eq___v2 : Option Addr} {sl_Polynomial___eq___v2 : Array (Option Value)} {oc_Polynomial___eq___v2 kV_Polynomial___eq___v2 dc_Polynomial___eq___v2 pm_Polynomial___eq___v2 cd_Polynomial___eq___v2 ct_Polynomial___eq___v2 : Value}
    {f_Polynomial___add : Addr} {od_Polynomial___add an_Polynomial___add : Option Addr} {sl_Polynomial___add : Array (Option Value)} {oc_Polynomial___add kV_Polynomial___add dc_Polynomial___add pm_Polynomial___add cd_Polynomial___add ct_Polynomial___add : Value}
    {f_Polynomial___sub : Addr} {od_Polynomial___sub an_Polynomial___sub : Option Addr} {sl_Polynomial___sub : Array (Option Value)} {oc_Polynomial___sub kV_Polynomial___sub dc_Polynomial___sub pm_Polynomial___sub cd_Polynomial___sub ct_Polynomial___sub : Value}
    {f_Polynomial___mul : Addr} {od_Polynomial___mul an_Polynomial___mul : Option Addr} {sl_Polynomial___mul : Array (Option Value)} {oc_Polynomial___mul kV_Polynomial___mul dc_Polynomial___mul pm_Polynomial___mul cd_Polynomial___mul ct_Polynomial___mul : Value}
    {f_Polynomial_value_at : Addr} {od_Polynomial_value_at an_Polynomial_value_at : Option Addr} {sl_Polynomial_value_at : Array (Option Value)} {oc_Polynomial_value_at kV_Polynomial_value_at dc_Polynomial_value_at pm_Polynomial_value_at cd_Polynomial_value_at ct_Polynomial_value_at : Value}
    {f_check_range : Addr} {od_check_range an_check_range : Option Addr} {sl_check_range : Array (Option Value)} {oc_check_range kV_check_range dc_check_range pm_check_range cd_check_range ct_check_range : Value}
    {f_check_many : Addr} {od_check_many an_check_many : Option Addr} {sl_check_many : Array (Option Value)} {oc_check_many kV_check_many dc_check_many pm_check_many cd_check_many ct_check_many : Value}
    {f_law_mix : Addr} {od_law_mix an_law_mix : Option Addr} {sl_law_mix : Array (Option Value)} {oc_law_mix kV_law_mix dc_law_mix pm_law_mix cd_law_mix ct_law_mix : Value}
    {f_law_pool : Addr} {od_law_pool an_law_pool : Option Addr} {sl_law_pool : Array (Option Value)} {oc_law_pool kV_law_pool dc_law_pool pm_law_pool cd_law_pool ct_law_pool : Value}
    {f_law_take : Addr} {od_law_take an_law_take : Option Addr} {sl_law_take : Array (Option Value)} {oc_law_take kV_law_take dc_law_take pm_law_take cd_law_take ct_law_take : Value}
    {f_law_number : Addr} {od_law_number an_law_number : Option Addr} {sl_law_number : Array (Option Value)} {oc_law_number kV_law_number dc_law_number pm_law_number cd_law_number ct_law_number : Value}
    {f_law_list : Addr} {od_law_list an_law_list : Option Addr} {sl_law_list : Array (Option Value)} {oc_law_list kV_law_list dc_law_list pm_law_list cd_law_list ct_law_list : Value}
    {f_law_long : Addr} {od_law_long an_law_long : Option Addr} {sl_law_long : Array (Option Value)} {oc_law_long kV_law_long dc_law_long pm_law_long cd_law_long ct_law_long : Value}
    {f_law_trimmed : Addr} {od_law_trimmed an_law_trimmed : Option Addr} {sl_law_trimmed : Array (Option Value)} {oc_law_trimmed kV_law_trimmed dc_law_trimmed pm_law_trimmed cd_law_trimmed ct_law_trimmed : Value}
    {f_law_plus : Addr} {od_law_plus an_law_plus : Option Addr} {sl_law_plus : Array (Option Value)} {oc_law_plus kV_law_plus dc_law_plus pm_law_plus cd_law_plus ct_law_plus : Value}
    {f_law_times : Addr} {od_law_times an_law_times : Option Addr} {sl_law_times : Array (Option Value)} {oc_law_times kV_law_times dc_law_times pm_law_times cd_law_times ct_law_times : Value}
    {f_law_value : Addr} {od_law_value an_law_value : Option Addr} {sl_law_value : Array (Option Value)} {oc_law_value kV_law_value dc_law_value pm_law_value cd_law_value ct_law_value : Value}
    {f_law_whole : Addr} {od_law_whole an_law_whole : Option Addr} {sl_law_whole : Array (Option Value)} {oc_law_whole kV_law_whole dc_law_whole pm_law_whole cd_law_whole ct_law_whole : Value}
    {f_law_is : Addr} {od_law_is an_law_is : Option Addr} {sl_law_is : Array (Option Value)} {oc_law_is kV_law_is dc_law_is pm_law_is cd_law_is ct_law_is : Value}
    {f_law_given_refused : Addr} {od_law_given_refused an_law_given_refused : Option Addr} {sl_law_given_refused : Array (Option Value)} {oc_law_given_refused kV_law_given_refused dc_law_given_refused pm_law_given_refused cd_law_given_refused ct_law_given_refused : Value}
    {f_law_product_refused : Addr} {od_law_product_refused an_law_product_refused : Option Addr} {sl_law_product_refused : Array (Option Value)} {oc_law_product_refused kV_law_product_refused dc_law_product_refused pm_law_product_refused cd_law_product_refused ct_law_product_refused : Value}
    {f_law_power_refused : Addr} {od_law_power_refused an_law_power_refused : Option Addr} {sl_law_power_refused : Array (Option Value)} {oc_law_power_refused kV_law_power_refused dc_law_power_refused pm_law_power_refused cd_law_power_refused ct_law_power_refused : Value}
    {f_law_value_refused : Addr} {od_law_value_refused an_law_value_refused : Option Addr} {sl_law_value_refused : Array (Option Value)} {oc_law_value_refused kV_law_value_refused dc_law_value_refused pm_law_value_refused cd_law_value_refused ct_law_value_refused : Value}
    {f_law_sums : Addr} {od_law_sums an_law_sums : Option Addr} {sl_law_sums : Array (Option Value)} {oc_law_sums kV_law_sums dc_law_sums pm_law_sums cd_law_sums ct_law_sums : Value}
    {f_law_values : Addr} {od_law_values an_law_values : Option Addr} {sl_law_values : Array (Option Value)} {oc_law_values kV_law_values dc_law_values pm_law_values cd_law_values ct_law_values : Value}
    {f_law_unlike : Addr} {od_law_unlike an_law_unlike : Option Addr} {sl_law_unlike : Array (Option Value)} {oc_law_unlike kV_law_unlike dc_law_unlike pm_law_unlike cd_law_unlike ct_law_unlike : Value}
    {f_law_bounds : Addr} {od_law_bounds an_law_bounds : Option Addr} {sl_law_bounds : Array (Option Value)} {oc_law_bounds kV_law_bounds dc_law_bounds pm_law_bounds cd_law_bounds ct_law_bounds : Value}
    {f_law_limits : Addr} {od_law_limits an_law_limits : Option Addr} {sl_law_limits : Array (Option Value)} {oc_law_limits kV_law_limits dc_law_limits pm_law_limits cd_law_limits ct_law_limits : Value}
    {f_law : Addr} {od_law an_law : Option Addr} {sl_law : Array (Option Value)} {oc_law kV_law dc_law pm_law cd_law ct_law : Value}
    {C_OutOfBounds I_OutOfBounds N_OutOfBounds : Addr} {nm_OutOfBounds q_OutOfBounds : Str} {bs_OutOfBounds bm_OutOfBounds sub_OutOfBounds : List Value} {sn_OutOfBounds : List Str} {ab_OutOfBounds : Bool} {col_OutOfBounds : Option Bool} {dd_OutOfBounds : Option Addr} {m0_OutOfBounds m1_OutOfBounds m2_OutOfBounds m3_OutOfBounds m5_OutOfBounds : Option Value} {od_OutOfBounds an_OutOfBounds : Option Addr} {sl_OutOfBounds : Array (Option Value)} {oc_OutOfBounds dc_OutOfBounds pm_OutOfBounds cd_OutOfBounds ct_OutOfBounds kV_OutOfBounds : Value}
    {C_TooMany I_TooMany N_TooMany : Addr} {nm_TooMany q_TooMany : Str} {bs_TooMany bm_TooMany sub_TooMany : List Value} {sn_TooMany : List Str} {ab_TooMany : Bool} {col_TooMany : Option Bool} {dd_TooMany : Option Addr} {m0_TooMany m1_TooMany m2_TooMany m3_TooMany m5_TooMany : Option Value} {od_TooMany an_TooMany : Option Addr} {sl_TooMany : Array (Option Value)} {oc_TooMany dc_TooMany pm_TooMany cd_TooMany ct_TooMany kV_TooMany : Value}
    {C_WordError : Addr}
    {tk_LARGEST_NUMBER : Tok}
    {tk_MOST_COEFFICIENTS : Tok}
    (a_Polynomial : PySem.W.nsIn K mainGlobals "Polynomial" = some (some (.ref C_Polynomial)))
    (pg_Polynomial : PySem.W.plainGet K C_Polynomial Str.empty = true)
    (hd_Polynomial : PySem.W.hasDictIn K C_Polynomial = true)
    (po_Polynomial : PySem.W.plainOver K C_Polynomial = true)
    (sa_Polynomial : PySem.W.findIn K (.ref C_Polynomial) "__setattr__" = some (some (.builtin "object.__setattr__")))
    (mk_Polynomial : PySem.W.makesIn K C_Polynomial = true)
    (kc_Polynomial : PySem.W.keepIn K (.ref C_Polynomial) = true)
    (sf_Polynomial : PySem.W.selfFirst K C_Polynomial = true)
    (na_Polynomial_coefficients : PySem.W.findIn K (.ref C_Polynomial) "coefficients" = some none)
    (oa_Polynomial : PySem.W.findIn K (.ref C_Polynomial) "__class__" = some (some (.builtin "object.__class__")))
    (om_Polynomial : PySem.W.mroIn K C_Polynomial (.type "object") = some true)
    (on_Polynomial : PySem.W.findIn K (.ref C_Polynomial) "__ne__" = some (some (.builtin "object.__ne__")))
    (on0 : PySem.W.specialIn K (.builtin "object.__class__") "__get__" = some (some (.builtin "getset_descriptor.__get__")))
    (ot0 : PySem.W.takesIn K (.builtin "object.__class__") = some true)
    (kty_Polynomial : PySem.W.typeIn K (.ref C_Polynomial) = some (.type "type"))
    (ksb_Polynomial : PySem.W.subIn K (.ref C_Polynomial) (.ref C_Polynomial) = some true)
    (ks_tuple_Polynomial : PySem.W.subIn K (.type "tuple") (.ref C_Polynomial) = some false)
    (nf_Polynomial_tuple : PySem.W.notFirst K C_Polynomial (.type "tuple") = true)
    (a_Polynomial___init : PySem.W.findIn K (.ref C_Polynomial) "__init__" = some (some (.ref f_Polynomial___init)))
    (fn_Polynomial___init : PySem.W.isFn K (.ref f_Polynomial___init) = true)
    (l_Polynomial___init : K.lookup f_Polynomial___init = some ⟨oc_Polynomial___init, od_Polynomial___init, .func (PySem.W.fnOf "__init__" "Polynomial.__init__" (defArgs s_Polynomial___init) (defBody s_Polynomial___init) (defScope s_Polynomial___init) .none kV_Polynomial___init dc_Polynomial___init pm_Polynomial___init an_Polynomial___init cd_Polynomial___init ct_Polynomial___init), sl_Polynomial___init⟩)
    (c_Polynomial___init : PySem.W.codeIn K cd_Polynomial___init "Polynomial.__init__" = true)
    (k_Polynomial___init : PySem.W.keepIn K (.ref f_Polynomial___init) = true)
    (a_Polynomial___init___v2 : PySem.W.findIn K (.ref C_Polynomial) "__init__" = some (some (.ref f_Polynomial___init___v2)))
    (fn_Polynomial___init___v2 : PySem.W.isFn K (.ref f_Polynomial___init___v2) = true)
    (l_Polynomial___init___v2 : K.lookup f_Polynomial___init___v2 = some ⟨oc_Polynomial___init___v2, od_Polynomial___init___v2, .func (PySem.W.fnOf "__init__" "Polynomial.__init__" (defArgs s_Polynomial___init___v2) (defBody s_Polynomial___init___v2) (defScope s_Polynomial___init___v2) .none kV_Polynomial___init___v2 dc_Polynomial___init___v2 pm_Polynomial___init___v2 an_Polynomial___init___v2 cd_Polynomial___init___v2 ct_Polynomial___init___v2), sl_Polynomial___init___v2⟩)
    (c_Polynomial___init___v2 : PySem.W.codeIn K cd_Polynomial___init___v2 "Polynomial.__init__" = true)
    (k_Polynomial___init___v2 : PySem.W.keepIn K (.ref f_Polynomial___init___v2) = true)
    (rd_Polynomial_power : PySem.W.readsIn K C_Polynomial (.type "type") = true)
    (ty_Polynomial_power : PySem.W.typeIn K (.ref C_Polynomial) = some (.type "type"))
    (ga_Polynomial_power : PySem.W.specialIn K (.ref C_Polynomial) "__getattribute__" = some (some (.builtin "type.__getattribute__")))
    (a_Polynomial_power : PySem.W.findCls K (.ref C_Polynomial) (.type "type") "power" = some (.get (.builtin "staticmethod.__get__") (.ref p_Polynomial_power) .none (.ref C_Polynomial)))
    (pr_Polynomial_power : PySem.W.recIn K p_Polynomial_power "staticmethod" = some (.ref f_Polynomial_power :: re_Polynomial_power))
    (l_Polynomial_power : K.lookup f_Polynomial_power = some ⟨oc_Polynomial_power, od_Polynomial_power, .func (PySem.W.fnOf "power" "Polynomial.power" (defArgs s_Polynomial_power) (defBody s_Polynomial_power) (defScope s_Polynomial_power) .none kV_Polynomial_power dc_Polynomial_power pm_Polynomial_power an_Polynomial_power cd_Polynomial_power ct_Polynomial_power), sl_Polynomial_power⟩)
    (c_Polynomial_power : PySem.W.codeIn K cd_Polynomial_power "Polynomial.power" = true)
    (k_Polynomial_power : PySem.W.keepIn K (.ref f_Polynomial_power) = true)
    (a_Polynomial_degree : PySem.W.findIn K (.ref C_Polynomial) "degree" = some (some (.ref p_Polynomial_degree)))
    (pg_Polynomial_degree : PySem.W.specialIn K (.ref p_Polynomial_degree) "__get__" = some (some (.builtin "property.__get__")))
    (pt_Polynomial_degree : PySem.W.takesIn K (.ref p_Polynomial_degree) = some true)
    (pr_Polynomial_degree : PySem.W.recIn K p_Polynomial_degree "property" = some (.ref f_Polynomial_degree :: re_Polynomial_degree))
    (l_Polynomial_degree : K.lookup f_Polynomial_degree = some ⟨oc_Polynomial_degree, od_Polynomial_degree, .func (PySem.W.fnOf "degree" "Polynomial.degree" (defArgs s_Polynomial_degree) (defBody s_Polynomial_degree) (defScope s_Polynomial_degree) .none kV_Polynomial_degree dc_Polynomial_degree pm_Polynomial_degree an_Polynomial_degree cd_Polynomial_degree ct_Polynomial_degree), sl_Polynomial_degree⟩)
    (c_Polynomial_degree : PySem.W.codeIn K cd_Polynomial_degree "Polynomial.degree" = true)
    (k_Polynomial_degree : PySem.W.keepIn K (.ref f_Polynomial_degree) = true)
    (a_Polynomial___eq : PySem.W.findIn K (.ref C_Polynomial) "__eq__" = some (some (.ref f_Polynomial___eq)))
    (fn_Polynomial___eq : PySem.W.isFn K (.ref f_Polynomial___eq) = true)
    (l_Polynomial___eq : K.lookup f_Polynomial___eq = some ⟨oc_Polynomial___eq, od_Polynomial___eq, .func (PySem.W.fnOf "__eq__" "Polynomial.__eq__" (defArgs s_Polynomial___eq) (defBody s_Polynomial___eq) (defScope s_Polynomial___eq) .none kV_Polynomial___eq dc_Polynomial___eq pm_Polynomial___eq an_Polynomial___eq cd_Polynomial___eq ct_Polynomial___eq), sl_Polynomial___eq⟩)
    (c_Polynomial___eq : PySem.W.codeIn K cd_Polynomial___eq "Polynomial.__eq__" = true)
    (k_Polynomial___eq : PySem.W.keepIn K (.ref f_Polynomial___eq) = true)
    (a_Polynomial___eq___v2 : PySem.W.findIn K (.ref C_Polynomial) "__eq__" = some (some (.ref f_Polynomial___eq___v2)))
    (fn_Polynomial___eq___v2 : PySem.W.isFn K (.ref f_Polynomial___eq___v2) = true)
    (l_Polynomial___eq___v2 : K.lookup f_Polynomial___eq___v2 = some ⟨oc_Polynomial___eq___v2, od_Polynomial___eq___v2, .func (PySem.W.fnOf "__eq__" "Polynomial.__eq__" (defArgs s_Polynomial___eq___v2) (defBody s_Polynomial___eq___v2) (defScope s_Polynomial___eq___v2) .none kV_Polynomial___eq___v2 dc_Polynomial___eq___v2 pm_Polynomial___eq___v2 an_Polynomial___eq___v2 cd_Polynomial___eq___v2 ct_Polynomial___eq___v2), sl_Polynomial___eq___v2⟩)
    (c_Polynomial___eq___v2 : PySem.W.codeIn K cd_Polynomial___eq___v2 "Polynomial.__eq__" = true)
    (k_Polynomial___eq___v2 : PySem.W.keepIn K (.ref f_Polynomial___eq___v2) = true)
    (a_Polynomial___add : PySem.W.findIn K (.ref C_Polynomial) "__add__" = some (some (.ref f_Polynomial___add)))
    (fn_Polynomial___add : PySem.W.isFn K (.ref f_Polynomial___add) = true)
    (bo_Polynomial___add : PySem.W.findIn K (.ref C_Polynomial) (PySem.dunder (PySem.Operator.info .Add).2) = some (some (.ref f_Polynomial___add)))
    (l_Polynomial___add : K.lookup f_Polynomial___add = some ⟨oc_Polynomial___add, od_Polynomial___add, .func (PySem.W.fnOf "__add__" "Polynomial.__add__" (defArgs s_Polynomial___add) (defBody s_Polynomial___add) (defScope s_Polynomial___add) .none kV_Polynomial___add dc_Polynomial___add pm_Polynomial___add an_Polynomial___add cd_Polynomial___add ct_Polynomial___add), sl_Polynomial___add⟩)
    (c_Polynomial___add : PySem.W.codeIn K cd_Polynomial___add "Polynomial.__add__" = true)
    (k_Polynomial___add : PySem.W.keepIn K (.ref f_Polynomial___add) = true)
    (a_Polynomial___sub : PySem.W.findIn K (.ref C_Polynomial) "__sub__" = some (some (.ref f_Polynomial___sub)))
    (fn_Polynomial___sub : PySem.W.isFn K (.ref f_Polynomial___sub) = true)
    (bo_Polynomial___sub : PySem.W.findIn K (.ref C_Polynomial) (PySem.dunder (PySem.Operator.info .Sub).2) = some (some (.ref f_Polynomial___sub)))
    (l_Polynomial___sub : K.lookup f_Polynomial___sub = some ⟨oc_Polynomial___sub, od_Polynomial___sub, .func (PySem.W.fnOf "__sub__" "Polynomial.__sub__" (defArgs s_Polynomial___sub) (defBody s_Polynomial___sub) (defScope s_Polynomial___sub) .none kV_Polynomial___sub dc_Polynomial___sub pm_Polynomial___sub an_Polynomial___sub cd_Polynomial___sub ct_Polynomial___sub), sl_Polynomial___sub⟩)
    (c_Polynomial___sub : PySem.W.codeIn K cd_Polynomial___sub "Polynomial.__sub__" = true)
    (k_Polynomial___sub : PySem.W.keepIn K (.ref f_Polynomial___sub) = true)
    (a_Polynomial___mul : PySem.W.findIn K (.ref C_Polynomial) "__mul__" = some (some (.ref f_Polynomial___mul)))
    (fn_Polynomial___mul : PySem.W.isFn K (.ref f_Polynomial___mul) = true)
    (bo_Polynomial___mul : PySem.W.findIn K (.ref C_Polynomial) (PySem.dunder (PySem.Operator.info .Mult).2) = some (some (.ref f_Polynomial___mul)))
    (l_Polynomial___mul : K.lookup f_Polynomial___mul = some ⟨oc_Polynomial___mul, od_Polynomial___mul, .func (PySem.W.fnOf "__mul__" "Polynomial.__mul__" (defArgs s_Polynomial___mul) (defBody s_Polynomial___mul) (defScope s_Polynomial___mul) .none kV_Polynomial___mul dc_Polynomial___mul pm_Polynomial___mul an_Polynomial___mul cd_Polynomial___mul ct_Polynomial___mul), sl_Polynomial___mul⟩)
    (c_Polynomial___mul : PySem.W.codeIn K cd_Polynomial___mul "Polynomial.__mul__" = true)
    (k_Polynomial___mul : PySem.W.keepIn K (.ref f_Polynomial___mul) = true)
    (a_Polynomial_value_at : PySem.W.findIn K (.ref C_Polynomial) "value_at" = some (some (.ref f_Polynomial_value_at)))
    (fn_Polynomial_value_at : PySem.W.isFn K (.ref f_Polynomial_value_at) = true)
    (l_Polynomial_value_at : K.lookup f_Polynomial_value_at = some ⟨oc_Polynomial_value_at, od_Polynomial_value_at, .func (PySem.W.fnOf "value_at" "Polynomial.value_at" (defArgs s_Polynomial_value_at) (defBody s_Polynomial_value_at) (defScope s_Polynomial_value_at) .none kV_Polynomial_value_at dc_Polynomial_value_at pm_Polynomial_value_at an_Polynomial_value_at cd_Polynomial_value_at ct_Polynomial_value_at), sl_Polynomial_value_at⟩)
    (c_Polynomial_value_at : PySem.W.codeIn K cd_Polynomial_value_at "Polynomial.value_at" = true)
    (k_Polynomial_value_at : PySem.W.keepIn K (.ref f_Polynomial_value_at) = true)
    (a_check_range : PySem.W.nsIn K mainGlobals "check_range" = some (some (.ref f_check_range)))
    (l_check_range : K.lookup f_check_range = some ⟨oc_check_range, od_check_range, .func (PySem.W.fnOf "check_range" "check_range" (defArgs s_check_range) (defBody s_check_range) (defScope s_check_range) .none kV_check_range dc_check_range pm_check_range an_check_range cd_check_range ct_check_range), sl_check_range⟩)
    (c_check_range : PySem.W.codeIn K cd_check_range "check_range" = true)
    (k_check_range : PySem.W.keepIn K (.ref f_check_range) = true)
    (a_check_many : PySem.W.nsIn K mainGlobals "check_many" = some (some (.ref f_check_many)))
    (l_check_many : K.lookup f_check_many = some ⟨oc_check_many, od_check_many, .func (PySem.W.fnOf "check_many" "check_many" (defArgs s_check_many) (defBody s_check_many) (defScope s_check_many) .none kV_check_many dc_check_many pm_check_many an_check_many cd_check_many ct_check_many), sl_check_many⟩)
    (c_check_many : PySem.W.codeIn K cd_check_many "check_many" = true)
    (k_check_many : PySem.W.keepIn K (.ref f_check_many) = true)
    (a_law_mix : PySem.W.nsIn K mainGlobals "_law_mix" = some (some (.ref f_law_mix)))
    (l_law_mix : K.lookup f_law_mix = some ⟨oc_law_mix, od_law_mix, .func (PySem.W.fnOf "_law_mix" "_law_mix" (defArgs s_law_mix) (defBody s_law_mix) (defScope s_law_mix) .none kV_law_mix dc_law_mix pm_law_mix an_law_mix cd_law_mix ct_law_mix), sl_law_mix⟩)
    (c_law_mix : PySem.W.codeIn K cd_law_mix "_law_mix" = true)
    (k_law_mix : PySem.W.keepIn K (.ref f_law_mix) = true)
    (a_law_pool : PySem.W.nsIn K mainGlobals "_law_pool" = some (some (.ref f_law_pool)))
    (l_law_pool : K.lookup f_law_pool = some ⟨oc_law_pool, od_law_pool, .func (PySem.W.fnOf "_law_pool" "_law_pool" (defArgs s_law_pool) (defBody s_law_pool) (defScope s_law_pool) .none kV_law_pool dc_law_pool pm_law_pool an_law_pool cd_law_pool ct_law_pool), sl_law_pool⟩)
    (c_law_pool : PySem.W.codeIn K cd_law_pool "_law_pool" = true)
    (k_law_pool : PySem.W.keepIn K (.ref f_law_pool) = true)
    (a_law_take : PySem.W.nsIn K mainGlobals "_law_take" = some (some (.ref f_law_take)))
    (l_law_take : K.lookup f_law_take = some ⟨oc_law_take, od_law_take, .func (PySem.W.fnOf "_law_take" "_law_take" (defArgs s_law_take) (defBody s_law_take) (defScope s_law_take) .none kV_law_take dc_law_take pm_law_take an_law_take cd_law_take ct_law_take), sl_law_take⟩)
    (c_law_take : PySem.W.codeIn K cd_law_take "_law_take" = true)
    (k_law_take : PySem.W.keepIn K (.ref f_law_take) = true)
    (a_law_number : PySem.W.nsIn K mainGlobals "_law_number" = some (some (.ref f_law_number)))
    (l_law_number : K.lookup f_law_number = some ⟨oc_law_number, od_law_number, .func (PySem.W.fnOf "_law_number" "_law_number" (defArgs s_law_number) (defBody s_law_number) (defScope s_law_number) .none kV_law_number dc_law_number pm_law_number an_law_number cd_law_number ct_law_number), sl_law_number⟩)
    (c_law_number : PySem.W.codeIn K cd_law_number "_law_number" = true)
    (k_law_number : PySem.W.keepIn K (.ref f_law_number) = true)
    (a_law_list : PySem.W.nsIn K mainGlobals "_law_list" = some (some (.ref f_law_list)))
    (l_law_list : K.lookup f_law_list = some ⟨oc_law_list, od_law_list, .func (PySem.W.fnOf "_law_list" "_law_list" (defArgs s_law_list) (defBody s_law_list) (defScope s_law_list) .none kV_law_list dc_law_list pm_law_list an_law_list cd_law_list ct_law_list), sl_law_list⟩)
    (c_law_list : PySem.W.codeIn K cd_law_list "_law_list" = true)
    (k_law_list : PySem.W.keepIn K (.ref f_law_list) = true)
    (a_law_long : PySem.W.nsIn K mainGlobals "_law_long" = some (some (.ref f_law_long)))
    (l_law_long : K.lookup f_law_long = some ⟨oc_law_long, od_law_long, .func (PySem.W.fnOf "_law_long" "_law_long" (defArgs s_law_long) (defBody s_law_long) (defScope s_law_long) .none kV_law_long dc_law_long pm_law_long an_law_long cd_law_long ct_law_long), sl_law_long⟩)
    (c_law_long : PySem.W.codeIn K cd_law_long "_law_long" = true)
    (k_law_long : PySem.W.keepIn K (.ref f_law_long) = true)
    (a_law_trimmed : PySem.W.nsIn K mainGlobals "_law_trimmed" = some (some (.ref f_law_trimmed)))
    (l_law_trimmed : K.lookup f_law_trimmed = some ⟨oc_law_trimmed, od_law_trimmed, .func (PySem.W.fnOf "_law_trimmed" "_law_trimmed" (defArgs s_law_trimmed) (defBody s_law_trimmed) (defScope s_law_trimmed) .none kV_law_trimmed dc_law_trimmed pm_law_trimmed an_law_trimmed cd_law_trimmed ct_law_trimmed), sl_law_trimmed⟩)
    (c_law_trimmed : PySem.W.codeIn K cd_law_trimmed "_law_trimmed" = true)
    (k_law_trimmed : PySem.W.keepIn K (.ref f_law_trimmed) = true)
    (a_law_plus : PySem.W.nsIn K mainGlobals "_law_plus" = some (some (.ref f_law_plus)))
    (l_law_plus : K.lookup f_law_plus = some ⟨oc_law_plus, od_law_plus, .func (PySem.W.fnOf "_law_plus" "_law_plus" (defArgs s_law_plus) (defBody s_law_plus) (defScope s_law_plus) .none kV_law_plus dc_law_plus pm_law_plus an_law_plus cd_law_plus ct_law_plus), sl_law_plus⟩)
    (c_law_plus : PySem.W.codeIn K cd_law_plus "_law_plus" = true)
    (k_law_plus : PySem.W.keepIn K (.ref f_law_plus) = true)
    (a_law_times : PySem.W.nsIn K mainGlobals "_law_times" = some (some (.ref f_law_times)))
    (l_law_times : K.lookup f_law_times = some ⟨oc_law_times, od_law_times, .func (PySem.W.fnOf "_law_times" "_law_times" (defArgs s_law_times) (defBody s_law_times) (defScope s_law_times) .none kV_law_times dc_law_times pm_law_times an_law_times cd_law_times ct_law_times), sl_law_times⟩)
    (c_law_times : PySem.W.codeIn K cd_law_times "_law_times" = true)
    (k_law_times : PySem.W.keepIn K (.ref f_law_times) = true)
    (a_law_value : PySem.W.nsIn K mainGlobals "_law_value" = some (some (.ref f_law_value)))
    (l_law_value : K.lookup f_law_value = some ⟨oc_law_value, od_law_value, .func (PySem.W.fnOf "_law_value" "_law_value" (defArgs s_law_value) (defBody s_law_value) (defScope s_law_value) .none kV_law_value dc_law_value pm_law_value an_law_value cd_law_value ct_law_value), sl_law_value⟩)
    (c_law_value : PySem.W.codeIn K cd_law_value "_law_value" = true)
    (k_law_value : PySem.W.keepIn K (.ref f_law_value) = true)
    (a_law_whole : PySem.W.nsIn K mainGlobals "_law_whole" = some (some (.ref f_law_whole)))
    (l_law_whole : K.lookup f_law_whole = some ⟨oc_law_whole, od_law_whole, .func (PySem.W.fnOf "_law_whole" "_law_whole" (defArgs s_law_whole) (defBody s_law_whole) (defScope s_law_whole) .none kV_law_whole dc_law_whole pm_law_whole an_law_whole cd_law_whole ct_law_whole), sl_law_whole⟩)
    (c_law_whole : PySem.W.codeIn K cd_law_whole "_law_whole" = true)
    (k_law_whole : PySem.W.keepIn K (.ref f_law_whole) = true)
    (a_law_is : PySem.W.nsIn K mainGlobals "_law_is" = some (some (.ref f_law_is)))
    (l_law_is : K.lookup f_law_is = some ⟨oc_law_is, od_law_is, .func (PySem.W.fnOf "_law_is" "_law_is" (defArgs s_law_is) (defBody s_law_is) (defScope s_law_is) .none kV_law_is dc_law_is pm_law_is an_law_is cd_law_is ct_law_is), sl_law_is⟩)
    (c_law_is : PySem.W.codeIn K cd_law_is "_law_is" = true)
    (k_law_is : PySem.W.keepIn K (.ref f_law_is) = true)
    (a_law_given_refused : PySem.W.nsIn K mainGlobals "_law_given_refused" = some (some (.ref f_law_given_refused)))
    (l_law_given_refused : K.lookup f_law_given_refused = some ⟨oc_law_given_refused, od_law_given_refused, .func (PySem.W.fnOf "_law_given_refused" "_law_given_refused" (defArgs s_law_given_refused) (defBody s_law_given_refused) (defScope s_law_given_refused) .none kV_law_given_refused dc_law_given_refused pm_law_given_refused an_law_given_refused cd_law_given_refused ct_law_given_refused), sl_law_given_refused⟩)
    (c_law_given_refused : PySem.W.codeIn K cd_law_given_refused "_law_given_refused" = true)
    (k_law_given_refused : PySem.W.keepIn K (.ref f_law_given_refused) = true)
    (a_law_product_refused : PySem.W.nsIn K mainGlobals "_law_product_refused" = some (some (.ref f_law_product_refused)))
    (l_law_product_refused : K.lookup f_law_product_refused = some ⟨oc_law_product_refused, od_law_product_refused, .func (PySem.W.fnOf "_law_product_refused" "_law_product_refused" (defArgs s_law_product_refused) (defBody s_law_product_refused) (defScope s_law_product_refused) .none kV_law_product_refused dc_law_product_refused pm_law_product_refused an_law_product_refused cd_law_product_refused ct_law_product_refused), sl_law_product_refused⟩)
    (c_law_product_refused : PySem.W.codeIn K cd_law_product_refused "_law_product_refused" = true)
    (k_law_product_refused : PySem.W.keepIn K (.ref f_law_product_refused) = true)
    (a_law_power_refused : PySem.W.nsIn K mainGlobals "_law_power_refused" = some (some (.ref f_law_power_refused)))
    (l_law_power_refused : K.lookup f_law_power_refused = some ⟨oc_law_power_refused, od_law_power_refused, .func (PySem.W.fnOf "_law_power_refused" "_law_power_refused" (defArgs s_law_power_refused) (defBody s_law_power_refused) (defScope s_law_power_refused) .none kV_law_power_refused dc_law_power_refused pm_law_power_refused an_law_power_refused cd_law_power_refused ct_law_power_refused), sl_law_power_refused⟩)
    (c_law_power_refused : PySem.W.codeIn K cd_law_power_refused "_law_power_refused" = true)
    (k_law_power_refused : PySem.W.keepIn K (.ref f_law_power_refused) = true)
    (a_law_value_refused : PySem.W.nsIn K mainGlobals "_law_value_refused" = some (some (.ref f_law_value_refused)))
    (l_law_value_refused : K.lookup f_law_value_refused = some ⟨oc_law_value_refused, od_law_value_refused, .func (PySem.W.fnOf "_law_value_refused" "_law_value_refused" (defArgs s_law_value_refused) (defBody s_law_value_refused) (defScope s_law_value_refused) .none kV_law_value_refused dc_law_value_refused pm_law_value_refused an_law_value_refused cd_law_value_refused ct_law_value_refused), sl_law_value_refused⟩)
    (c_law_value_refused : PySem.W.codeIn K cd_law_value_refused "_law_value_refused" = true)
    (k_law_value_refused : PySem.W.keepIn K (.ref f_law_value_refused) = true)
    (a_law_sums : PySem.W.nsIn K mainGlobals "_law_sums" = some (some (.ref f_law_sums)))
    (l_law_sums : K.lookup f_law_sums = some ⟨oc_law_sums, od_law_sums, .func (PySem.W.fnOf "_law_sums" "_law_sums" (defArgs s_law_sums) (defBody s_law_sums) (defScope s_law_sums) .none kV_law_sums dc_law_sums pm_law_sums an_law_sums cd_law_sums ct_law_sums), sl_law_sums⟩)
    (c_law_sums : PySem.W.codeIn K cd_law_sums "_law_sums" = true)
    (k_law_sums : PySem.W.keepIn K (.ref f_law_sums) = true)
    (a_law_values : PySem.W.nsIn K mainGlobals "_law_values" = some (some (.ref f_law_values)))
    (l_law_values : K.lookup f_law_values = some ⟨oc_law_values, od_law_values, .func (PySem.W.fnOf "_law_values" "_law_values" (defArgs s_law_values) (defBody s_law_values) (defScope s_law_values) .none kV_law_values dc_law_values pm_law_values an_law_values cd_law_values ct_law_values), sl_law_values⟩)
    (c_law_values : PySem.W.codeIn K cd_law_values "_law_values" = true)
    (k_law_values : PySem.W.keepIn K (.ref f_law_values) = true)
    (a_law_unlike : PySem.W.nsIn K mainGlobals "_law_unlike" = some (some (.ref f_law_unlike)))
    (l_law_unlike : K.lookup f_law_unlike = some ⟨oc_law_unlike, od_law_unlike, .func (PySem.W.fnOf "_law_unlike" "_law_unlike" (defArgs s_law_unlike) (defBody s_law_unlike) (defScope s_law_unlike) .none kV_law_unlike dc_law_unlike pm_law_unlike an_law_unlike cd_law_unlike ct_law_unlike), sl_law_unlike⟩)
    (c_law_unlike : PySem.W.codeIn K cd_law_unlike "_law_unlike" = true)
    (k_law_unlike : PySem.W.keepIn K (.ref f_law_unlike) = true)
    (a_law_bounds : PySem.W.nsIn K mainGlobals "_law_bounds" = some (some (.ref f_law_bounds)))
    (l_law_bounds : K.lookup f_law_bounds = some ⟨oc_law_bounds, od_law_bounds, .func (PySem.W.fnOf "_law_bounds" "_law_bounds" (defArgs s_law_bounds) (defBody s_law_bounds) (defScope s_law_bounds) .none kV_law_bounds dc_law_bounds pm_law_bounds an_law_bounds cd_law_bounds ct_law_bounds), sl_law_bounds⟩)
    (c_law_bounds : PySem.W.codeIn K cd_law_bounds "_law_bounds" = true)
    (k_law_bounds : PySem.W.keepIn K (.ref f_law_bounds) = true)
    (a_law_limits : PySem.W.nsIn K mainGlobals "_law_limits" = some (some (.ref f_law_limits)))
    (l_law_limits : K.lookup f_law_limits = some ⟨oc_law_limits, od_law_limits, .func (PySem.W.fnOf "_law_limits" "_law_limits" (defArgs s_law_limits) (defBody s_law_limits) (defScope s_law_limits) .none kV_law_limits dc_law_limits pm_law_limits an_law_limits cd_law_limits ct_law_limits), sl_law_limits⟩)
    (c_law_limits : PySem.W.codeIn K cd_law_limits "_law_limits" = true)
    (k_law_limits : PySem.W.keepIn K (.ref f_law_limits) = true)
    (a_law : PySem.W.nsIn K mainGlobals "law" = some (some (.ref f_law)))
    (l_law : K.lookup f_law = some ⟨oc_law, od_law, .func (PySem.W.fnOf "law" "law" (defArgs s_law) (defBody s_law) (defScope s_law) .none kV_law dc_law pm_law an_law cd_law ct_law), sl_law⟩)
    (c_law : PySem.W.codeIn K cd_law "law" = true)
    (k_law : PySem.W.keepIn K (.ref f_law) = true)
    (hn0 : PySem.W.specialIn K (.builtin "object.__class__") "__get__" = some (some (.builtin "getset_descriptor.__get__")))
    (ht0 : PySem.W.takesIn K (.builtin "object.__class__") = some true)
    (a_OutOfBounds : PySem.W.nsIn K mainGlobals "OutOfBounds" = some (some (.ref C_OutOfBounds)))
    (x_OutOfBounds : K.lookup C_OutOfBounds = some (excClassObj nm_OutOfBounds q_OutOfBounds C_OutOfBounds N_OutOfBounds bs_OutOfBounds bm_OutOfBounds true sn_OutOfBounds sub_OutOfBounds ab_OutOfBounds col_OutOfBounds dd_OutOfBounds m0_OutOfBounds m1_OutOfBounds m2_OutOfBounds m3_OutOfBounds m5_OutOfBounds "ValueError.__new__"))
    (rv_OutOfBounds : PySem.HandSPX.refsVE bm_OutOfBounds = true)
    (sa_OutOfBounds : PySem.W.findIn K (.ref C_OutOfBounds) "__setattr__" = some (some (.builtin "object.__setattr__")))
    (ga_OutOfBounds : PySem.W.findIn K (.ref C_OutOfBounds) "__getattribute__" = some (some (.builtin "BaseException.__getattribute__")))
    (gg_OutOfBounds : PySem.W.findIn K (.ref C_OutOfBounds) "__getattr__" = some none)
    (nb_OutOfBounds : PySem.W.findIn K (.ref C_OutOfBounds) "value" = some none)
    (i_OutOfBounds : PySem.W.findIn K (.ref C_OutOfBounds) "__init__" = some (some (.ref I_OutOfBounds)))
    (t_OutOfBounds : PySem.W.typeIn K (.ref I_OutOfBounds) = some (.type "function"))
    (l_OutOfBounds : K.lookup I_OutOfBounds = some ⟨oc_OutOfBounds, od_OutOfBounds, .func (PySem.W.fnOf "__init__" "OutOfBounds.__init__" (defArgs si_OutOfBounds) (defBody si_OutOfBounds) (defScope si_OutOfBounds) .none kV_OutOfBounds dc_OutOfBounds pm_OutOfBounds an_OutOfBounds cd_OutOfBounds ct_OutOfBounds), sl_OutOfBounds⟩)
    (c_OutOfBounds : PySem.W.codeIn K cd_OutOfBounds "OutOfBounds.__init__" = true)
    (ki_OutOfBounds : PySem.W.keepIn K (.ref I_OutOfBounds) = true)
    (kC_OutOfBounds : PySem.W.keepIn K (.ref C_OutOfBounds) = true)
    (eC_OutOfBounds : PySem.W.subIn K (.ref C_OutOfBounds) (.type "BaseException") = some true)
    (tC_OutOfBounds : PySem.W.typeIn K (.ref C_OutOfBounds) = some (.type "type"))
    (hC_OutOfBounds : PySem.W.hasDictIn K C_OutOfBounds = true)
    (ha_OutOfBounds : PySem.W.findIn K (.ref C_OutOfBounds) "__class__" = some (some (.builtin "object.__class__")))
    (hm_OutOfBounds : PySem.W.mroIn K C_OutOfBounds (.type "object") = some true)
    (a_TooMany : PySem.W.nsIn K mainGlobals "TooMany" = some (some (.ref C_TooMany)))
    (x_TooMany : K.lookup C_TooMany = some (excClassObj nm_TooMany q_TooMany C_TooMany N_TooMany bs_TooMany bm_TooMany true sn_TooMany sub_TooMany ab_TooMany col_TooMany dd_TooMany m0_TooMany m1_TooMany m2_TooMany m3_TooMany m5_TooMany "ValueError.__new__"))
    (rv_TooMany : PySem.HandSPX.refsVE bm_TooMany = true)
    (sa_TooMany : PySem.W.findIn K (.ref C_TooMany) "__setattr__" = some (some (.builtin "object.__setattr__")))
    (ga_TooMany : PySem.W.findIn K (.ref C_TooMany) "__getattribute__" = some (some (.builtin "BaseException.__getattribute__")))
    (gg_TooMany : PySem.W.findIn K (.ref C_TooMany) "__getattr__" = some none)
    (nb_TooMany : PySem.W.findIn K (.ref C_TooMany) "most" = some none)
    (i_TooMany : PySem.W.findIn K (.ref C_TooMany) "__init__" = some (some (.ref I_TooMany)))
    (t_TooMany : PySem.W.typeIn K (.ref I_TooMany) = some (.type "function"))
    (l_TooMany : K.lookup I_TooMany = some ⟨oc_TooMany, od_TooMany, .func (PySem.W.fnOf "__init__" "TooMany.__init__" (defArgs si_TooMany) (defBody si_TooMany) (defScope si_TooMany) .none kV_TooMany dc_TooMany pm_TooMany an_TooMany cd_TooMany ct_TooMany), sl_TooMany⟩)
    (c_TooMany : PySem.W.codeIn K cd_TooMany "TooMany.__init__" = true)
    (ki_TooMany : PySem.W.keepIn K (.ref I_TooMany) = true)
    (kC_TooMany : PySem.W.keepIn K (.ref C_TooMany) = true)
    (eC_TooMany : PySem.W.subIn K (.ref C_TooMany) (.type "BaseException") = some true)
    (tC_TooMany : PySem.W.typeIn K (.ref C_TooMany) = some (.type "type"))
    (hC_TooMany : PySem.W.hasDictIn K C_TooMany = true)
    (ha_TooMany : PySem.W.findIn K (.ref C_TooMany) "__class__" = some (some (.builtin "object.__class__")))
    (hm_TooMany : PySem.W.mroIn K C_TooMany (.type "object") = some true)
    (a_WordError : PySem.W.nsIn K mainGlobals "WordError" = some (some (.ref C_WordError)))
    (eC_WordError : PySem.W.subIn K (.ref C_WordError) (.type "BaseException") = some true)
    (tC_WordError : PySem.W.typeIn K (.ref C_WordError) = some (.type "type"))
    (hC_WordError : PySem.W.hasDictIn K C_WordError = true)
    (S0_OutOfBounds : PySem.W.subIn K (.ref C_OutOfBounds) (.ref C_OutOfBounds) = some true)
    (S0_TooMany : PySem.W.subIn K (.ref C_TooMany) (.ref C_TooMany) = some true)
    (S_TooMany_OutOfBounds : PySem.W.subIn K (.ref C_TooMany) (.ref C_OutOfBounds) = some false)
    (S_OutOfBounds_TooMany : PySem.W.subIn K (.ref C_OutOfBounds) (.ref C_TooMany) = some false)
    (S_OutOfBounds_WordError : PySem.W.subIn K (.ref C_OutOfBounds) (.ref C_WordError) = some true)
    (S_TooMany_WordError : PySem.W.subIn K (.ref C_TooMany) (.ref C_WordError) = some true)
    (z_abs : PySem.W.nsIn K mainGlobals "abs" = some none)
    (z_bool : PySem.W.nsIn K mainGlobals "bool" = some none)
    (z_enumerate : PySem.W.nsIn K mainGlobals "enumerate" = some none)
    (z_int : PySem.W.nsIn K mainGlobals "int" = some none)
    (z_isinstance : PySem.W.nsIn K mainGlobals "isinstance" = some none)
    (z_len : PySem.W.nsIn K mainGlobals "len" = some none)
    (z_list : PySem.W.nsIn K mainGlobals "list" = some none)
    (z_max : PySem.W.nsIn K mainGlobals "max" = some none)
    (z_min : PySem.W.nsIn K mainGlobals "min" = some none)
    (z_range : PySem.W.nsIn K mainGlobals "range" = some none)
    (z_reversed : PySem.W.nsIn K mainGlobals "reversed" = some none)
    (z_tuple : PySem.W.nsIn K mainGlobals "tuple" = some none)
    (v_LARGEST_NUMBER : PySem.W.nsIn K mainGlobals "LARGEST_NUMBER" = some (some (.int 1000 tk_LARGEST_NUMBER)))
    (v_MOST_COEFFICIENTS : PySem.W.nsIn K mainGlobals "MOST_COEFFICIENTS" = some (some (.int 100 tk_MOST_COEFFICIENTS)))
    : ∃ fd : FuncData, (∀ (s : Shared) (v : Value), BindsTo s fd ⟨[v], []⟩ [("script", v)]) ∧ ∀ base : Heap, K.In base → base.Ns mainGlobals mg → FnOk Pg w K mg base (L2N.CX Pg w) 9 fa fd ["script"] (spLaw m_law K) := by
  have e := hfa.symm.trans (PySem.W.mg_of X G a_law)
  cases e
  have F_check_range := fun_mk (st := s_check_range) l_check_range c_check_range k_check_range
  have b_check_range := F_check_range.binds (ps := ["value", "low", "high"]) fun _ _ _ _ _ _ us hl => match us, hl with | [_, _, _], _ => rfl
  have F_check_many := fun_mk (st := s_check_many) l_check_many c_check_many k_check_many
  have b_check_many := F_check_many.binds (ps := ["things", "most"]) fun _ _ _ _ _ _ us hl => match us, hl with | [_, _], _ => rfl
  have F_Polynomial___init := fun_mk (st := s_Polynomial___init) l_Polynomial___init c_Polynomial___init k_Polynomial___init
  have b_Polynomial___init := F_Polynomial___init.binds (ps := ["self", "coefficients"]) fun _ _ _ _ _ _ us hl => match us, hl with | [_, _], _ => rfl
  have F_Polynomial___init___v2 := fun_mk (st := s_Polynomial___init___v2) l_Polynomial___init___v2 c_Polynomial___init___v2 k_Polynomial___init___v2
  have b_Polynomial___init___v2 := F_Polynomial___init___v2.binds (ps := ["self", "coefficients"]) fun _ _ _ _ _ _ us hl => match us, hl with | [_, _], _ => rfl
  have F_Polynomial_power := fun_mk (st := s_Polynomial_power) l_Polynomial_power c_Polynomial_power k_Polynomial_power
  have b_Polynomial_power := F_Polynomial_power.binds (ps := ["exponent"]) fun _ _ _ _ _ _ us hl => match us, hl with | [_], _ => rfl
  have F_Polynomial_degree := fun_mk (st := s_Polynomial_degree) l_Polynomial_degree c_Polynomial_degree k_Polynomial_degree
  have b_Polynomial_degree := F_Polynomial_degree.binds (ps := ["self"]) fun _ _ _ _ _ _ us hl => match us, hl with | [_], _ => rfl
  have F_Polynomial___eq := fun_mk (st := s_Polynomial___eq) l_Polynomial___eq c_Polynomial___eq k_Polynomial___eq
  have b_Polynomial___eq := F_Polynomial___eq.binds (ps := ["self", "other"]) fun _ _ _ _ _ _ us hl => match us, hl with | [_, _], _ => rfl
  have F_Polynomial___eq___v2 := fun_mk (st := s_Polynomial___eq___v2) l_Polynomial___eq___v2 c_Polynomial___eq___v2 k_Polynomial___eq___v2
  have b_Polynomial___eq___v2 := F_Polynomial___eq___v2.binds (ps := ["self", "other"]) fun _ _ _ _ _ _ us hl => match us, hl with | [_, _], _ => rfl
  have F_Polynomial___add := fun_mk (st := s_Polynomial___add) l_Polynomial___add c_Polynomial___add k_Polynomial___add
  have b_Polynomial___add := F_Polynomial___add.binds (ps := ["self", "other"]) fun _ _ _ _ _ _ us hl => match us, hl with | [_, _], _ => rfl
  have F_Polynomial___sub := fun_mk (st := s_Polynomial___sub) l_Polynomial___sub c_Polynomial___sub k_Polynomial___sub
  have b_Polynomial___sub := F_Polynomial___sub.binds (ps := ["self", "other"]) fun _ _ _ _ _ _ us hl => match us, hl with | [_, _], _ => rfl
  have F_Polynomial___mul := fun_mk (st := s_Polynomial___mul) l_Polynomial___mul c_Polynomial___mul k_Polynomial___mul
  have b_Polynomial___mul := F_Polynomial___mul.binds (ps := ["self", "other"]) fun _ _ _ _ _ _ us hl => match us, hl with | [_, _], _ => rfl
  have F_Polynomial_value_at := fun_mk (st := s_Polynomial_value_at) l_Polynomial_value_at c_Polynomial_value_at k_Polynomial_value_at
  have b_Polynomial_value_at := F_Polynomial_value_at.binds (ps := ["self", "number"]) fun _ _ _ _ _ _ us hl => match us, hl with | [_, _], _ => rfl
  have F_law_mix := fun_mk (st := s_law_mix) l_law_mix c_law_mix k_law_mix
  have b_law_mix := F_law_mix.binds (ps := ["cell", "k"]) fun _ _ _ _ _ _ us hl => match us, hl with | [_, _], _ => rfl
  have F_law_pool := fun_mk (st := s_law_pool) l_law_pool c_law_pool k_law_pool
  have b_law_pool := F_law_pool.binds (ps := ["script"]) fun _ _ _ _ _ _ us hl => match us, hl with | [_], _ => rfl
  have F_law_take := fun_mk (st := s_law_take) l_law_take c_law_take k_law_take
  have b_law_take := F_law_take.binds (ps := ["pool", "size"]) fun _ _ _ _ _ _ us hl => match us, hl with | [_, _], _ => rfl
  have F_law_number := fun_mk (st := s_law_number) l_law_number c_law_number k_law_number
  have b_law_number := F_law_number.binds (ps := ["pool"]) fun _ _ _ _ _ _ us hl => match us, hl with | [_], _ => rfl
  have F_law_list := fun_mk (st := s_law_list) l_law_list c_law_list k_law_list
  have b_law_list := F_law_list.binds (ps := ["pool"]) fun _ _ _ _ _ _ us hl => match us, hl with | [_], _ => rfl
  have F_law_long := fun_mk (st := s_law_long) l_law_long c_law_long k_law_long
  have b_law_long := F_law_long.binds (ps := ["pool", "size"]) fun _ _ _ _ _ _ us hl => match us, hl with | [_, _], _ => rfl
  have F_law_trimmed := fun_mk (st := s_law_trimmed) l_law_trimmed c_law_trimmed k_law_trimmed
  have b_law_trimmed := F_law_trimmed.binds (ps := ["row"]) fun _ _ _ _ _ _ us hl => match us, hl with | [_], _ => rfl
  have F_law_plus := fun_mk (st := s_law_plus) l_law_plus c_law_plus k_law_plus
  have b_law_plus := F_law_plus.binds (ps := ["one", "two", "sign"]) fun _ _ _ _ _ _ us hl => match us, hl with | [_, _, _], _ => rfl
  have F_law_times := fun_mk (st := s_law_times) l_law_times c_law_times k_law_times
  have b_law_times := F_law_times.binds (ps := ["one", "two"]) fun _ _ _ _ _ _ us hl => match us, hl with | [_, _], _ => rfl
  have F_law_value := fun_mk (st := s_law_value) l_law_value c_law_value k_law_value
  have b_law_value := F_law_value.binds (ps := ["row", "number"]) fun _ _ _ _ _ _ us hl => match us, hl with | [_, _], _ => rfl
  have F_law_whole := fun_mk (st := s_law_whole) l_law_whole c_law_whole k_law_whole
  have b_law_whole := F_law_whole.binds (ps := ["told"]) fun _ _ _ _ _ _ us hl => match us, hl with | [_], _ => rfl
  have F_law_is := fun_mk (st := s_law_is) l_law_is c_law_is k_law_is
  have b_law_is := F_law_is.binds (ps := ["told", "due"]) fun _ _ _ _ _ _ us hl => match us, hl with | [_, _], _ => rfl
  have F_law_given_refused := fun_mk (st := s_law_given_refused) l_law_given_refused c_law_given_refused k_law_given_refused
  have b_law_given_refused := F_law_given_refused.binds (ps := ["row"]) fun _ _ _ _ _ _ us hl => match us, hl with | [_], _ => rfl
  have F_law_product_refused := fun_mk (st := s_law_product_refused) l_law_product_refused c_law_product_refused k_law_product_refused
  have b_law_product_refused := F_law_product_refused.binds (ps := ["one", "two"]) fun _ _ _ _ _ _ us hl => match us, hl with | [_, _], _ => rfl
  have F_law_power_refused := fun_mk (st := s_law_power_refused) l_law_power_refused c_law_power_refused k_law_power_refused
  have b_law_power_refused := F_law_power_refused.binds (ps := ["exponent"]) fun _ _ _ _ _ _ us hl => match us, hl with | [_], _ => rfl
  have F_law_value_refused := fun_mk (st := s_law_value_refused) l_law_value_refused c_law_value_refused k_law_value_refused
  have b_law_value_refused := F_law_value_refused.binds (ps := ["told", "number"]) fun _ _ _ _ _ _ us hl => match us, hl with | [_, _], _ => rfl
  have F_law_sums := fun_mk (st := s_law_sums) l_law_sums c_law_sums k_law_sums
  have b_law_sums := F_law_sums.binds (ps := ["one", "left", "two", "right"]) fun _ _ _ _ _ _ us hl => match us, hl with | [_, _, _, _], _ => rfl
  have F_law_values := fun_mk (st := s_law_values) l_law_values c_law_values k_law_values
  have b_law_values := F_law_values.binds (ps := ["told", "row", "numbers"]) fun _ _ _ _ _ _ us hl => match us, hl with | [_, _, _], _ => rfl
  have F_law_unlike := fun_mk (st := s_law_unlike) l_law_unlike c_law_unlike k_law_unlike
  have b_law_unlike := F_law_unlike.binds (ps := ["told", "row"]) fun _ _ _ _ _ _ us hl => match us, hl with | [_, _], _ => rfl
  have F_law_bounds := fun_mk (st := s_law_bounds) l_law_bounds c_law_bounds k_law_bounds
  have b_law_bounds := F_law_bounds.binds (ps := ["pool", "told"]) fun _ _ _ _ _ _ us hl => match us, hl with | [_, _], _ => rfl
  have F_law_limits := fun_mk (st := s_law_limits) l_law_limits c_law_limits k_law_limits
  have b_law_limits := F_law_limits.binds (ps := ["pool"]) fun _ _ _ _ _ _ us hl => match us, hl with | [_], _ => rfl
  have F_law := fun_mk (st := s_law) l_law c_law k_law
  have b_law := F_law.binds (ps := ["script"]) fun _ _ _ _ _ _ us hl => match us, hl with | [_], _ => rfl
  have T_OutOfBounds : OexC K C_OutOfBounds := ⟨⟨_, _, _, _, _, _, _, _, _, _, _, _, _, _, _, x_OutOfBounds, rv_OutOfBounds⟩, sa_OutOfBounds, eC_OutOfBounds, tC_OutOfBounds, kC_OutOfBounds⟩
  have F_OutOfBounds := fun_mk (st := si_OutOfBounds) l_OutOfBounds c_OutOfBounds ki_OutOfBounds
  have b_OutOfBounds := F_OutOfBounds.binds (ps := ["self", "value"]) fun _ _ _ _ _ _ us hl => match us, hl with | [_, _], _ => rfl
  have T_TooMany : OexC K C_TooMany := ⟨⟨_, _, _, _, _, _, _, _, _, _, _, _, _, _, _, x_TooMany, rv_TooMany⟩, sa_TooMany, eC_TooMany, tC_TooMany, kC_TooMany⟩
  have F_TooMany := fun_mk (st := si_TooMany) l_TooMany c_TooMany ki_TooMany
  have b_TooMany := F_TooMany.binds (ps := ["self", "most"]) fun _ _ _ _ _ _ us hl => match us, hl with | [_, _], _ => rfl
  let T : Txt Pg w K mg := {
    C_Polynomial := C_Polynomial,
    gC_Polynomial := PySem.W.mg_of X G a_Polynomial,
    ko_Polynomial := ⟨a_Polynomial, ⟨pg_Polynomial, hd_Polynomial, po_Polynomial, sa_Polynomial⟩⟩,
    na_Polynomial_coefficients := na_Polynomial_coefficients,
    oi_Polynomial := ⟨oa_Polynomial, on0, ot0, om_Polynomial⟩,
    ne_Polynomial := ⟨om_Polynomial, on_Polynomial⟩,
    kit_Polynomial_Polynomial := kit_ref hd_Polynomial kty_Polynomial ksb_Polynomial ksb_Polynomial,
    kit_tuple_Polynomial := kit_tyr hd_Polynomial kty_Polynomial ks_tuple_Polynomial,
    nf_Polynomial_tuple := nf_Polynomial_tuple,
    a_Polynomial___init := _,
    d_Polynomial___init := _,
    F_Polynomial___init := F_Polynomial___init,
    b_Polynomial___init := b_Polynomial___init,
    mk_Polynomial___init := ⟨mk_Polynomial, a_Polynomial___init, fn_Polynomial___init, kc_Polynomial⟩,
    a_Polynomial___init___v2 := _,
    d_Polynomial___init___v2 := _,
    F_Polynomial___init___v2 := F_Polynomial___init___v2,
    b_Polynomial___init___v2 := b_Polynomial___init___v2,
    mk_Polynomial___init___v2 := ⟨mk_Polynomial, a_Polynomial___init___v2, fn_Polynomial___init___v2, kc_Polynomial⟩,
    a_Polynomial_power := _,
    d_Polynomial_power := _,
    F_Polynomial_power := F_Polynomial_power,
    b_Polynomial_power := b_Polynomial_power,
    sm_Polynomial_power := ⟨rd_Polynomial_power, ty_Polynomial_power, ga_Polynomial_power, ⟨_, a_Polynomial_power, ⟨_, pr_Polynomial_power⟩⟩, k_Polynomial_power⟩,
    a_Polynomial_degree := _,
    d_Polynomial_degree := _,
    F_Polynomial_degree := F_Polynomial_degree,
    b_Polynomial_degree := b_Polynomial_degree,
    p_Polynomial_degree := p_Polynomial_degree,
    pp_Polynomial_degree := ⟨a_Polynomial_degree, pg_Polynomial_degree, pt_Polynomial_degree, ⟨_, pr_Polynomial_degree⟩⟩,
    a_Polynomial___eq := _,
    d_Polynomial___eq := _,
    F_Polynomial___eq := F_Polynomial___eq,
    b_Polynomial___eq := b_Polynomial___eq,
    me_Polynomial___eq := ⟨a_Polynomial___eq, fn_Polynomial___eq, k_Polynomial___eq⟩,
    bo_Polynomial___eq := ⟨sf_Polynomial, a_Polynomial___eq, fn_Polynomial___eq⟩,
    a_Polynomial___eq___v2 := _,
    d_Polynomial___eq___v2 := _,
    F_Polynomial___eq___v2 := F_Polynomial___eq___v2,
    b_Polynomial___eq___v2 := b_Polynomial___eq___v2,
    me_Polynomial___eq___v2 := ⟨a_Polynomial___eq___v2, fn_Polynomial___eq___v2, k_Polynomial___eq___v2⟩,
    bo_Polynomial___eq___v2 := ⟨sf_Polynomial, a_Polynomial___eq___v2, fn_Polynomial___eq___v2⟩,
    a_Polynomial___add := _,
    d_Polynomial___add := _,
    F_Polynomial___add := F_Polynomial___add,
    b_Polynomial___add := b_Polynomial___add,
    me_Polynomial___add := ⟨a_Polynomial___add, fn_Polynomial___add, k_Polynomial___add⟩,
    bo_Polynomial___add := ⟨sf_Polynomial, bo_Polynomial___add, fn_Polynomial___add⟩,
    a_Polynomial___sub := _,
    d_Polynomial___sub := _,
    F_Polynomial___sub := F_Polynomial___sub,
    b_Polynomial___sub := b_Polynomial___sub,
    me_Polynomial___sub := ⟨a_Polynomial___sub, fn_Polynomial___sub, k_Polynomial___sub⟩,
    bo_Polynomial___sub := ⟨sf_Polynomial, bo_Polynomial___sub, fn_Polynomial___sub⟩,
    a_Polynomial___mul := _,
    d_Polynomial___mul := _,
    F_Polynomial___mul := F_Polynomial___mul,
    b_Polynomial___mul := b_Polynomial___mul,
    me_Polynomial___mul := ⟨a_Polynomial___mul, fn_Polynomial___mul, k_Polynomial___mul⟩,
    bo_Polynomial___mul := ⟨sf_Polynomial, bo_Polynomial___mul, fn_Polynomial___mul⟩,
    a_Polynomial_value_at := _,
    d_Polynomial_value_at := _,
    F_Polynomial_value_at := F_Polynomial_value_at,
    b_Polynomial_value_at := b_Polynomial_value_at,
    me_Polynomial_value_at := ⟨a_Polynomial_value_at, fn_Polynomial_value_at, k_Polynomial_value_at⟩,
    a_check_range := _,
    d_check_range := _,
    F_check_range := F_check_range,
    g_check_range := PySem.W.mg_of X G a_check_range,
    b_check_range := b_check_range,
    a_check_many := _,
    d_check_many := _,
    F_check_many := F_check_many,
    g_check_many := PySem.W.mg_of X G a_check_many,
    b_check_many := b_check_many,
    a_law_mix := _,
    d_law_mix := _,
    F_law_mix := F_law_mix,
    g_law_mix := PySem.W.mg_of X G a_law_mix,
    b_law_mix := b_law_mix,
    a_law_pool := _,
    d_law_pool := _,
    F_law_pool := F_law_pool,
    g_law_pool := PySem.W.mg_of X G a_law_pool,
    b_law_pool := b_law_pool,
    a_law_take := _,
    d_law_take := _,
    F_law_take := F_law_take,
    g_law_take := PySem.W.mg_of X G a_law_take,
    b_law_take := b_law_take,
    a_law_number := _,
    d_law_number := _,
    F_law_number := F_law_number,
    g_law_number := PySem.W.mg_of X G a_law_number,
    b_law_number := b_law_number,
    a_law_list := _,
    d_law_list := _,
    F_law_list := F_law_list,
    g_law_list := PySem.W.mg_of X G a_law_list,
    b_law_list := b_law_list,
    a_law_long := _,
    d_law_long := _,
    F_law_long := F_law_long,
    g_law_long := PySem.W.mg_of X G a_law_long,
    b_law_long := b_law_long,
    a_law_trimmed := _,
    d_law_trimmed := _,
    F_law_trimmed := F_law_trimmed,
    g_law_trimmed := PySem.W.mg_of X G a_law_trimmed,
    b_law_trimmed := b_law_trimmed,
    a_law_plus := _,
    d_law_plus := _,
    F_law_plus := F_law_plus,
    g_law_plus := PySem.W.mg_of X G a_law_plus,
    b_law_plus := b_law_plus,
    a_law_times := _,
    d_law_times := _,
    F_law_times := F_law_times,
    g_law_times := PySem.W.mg_of X G a_law_times,
    b_law_times := b_law_times,
    a_law_value := _,
    d_law_value := _,
    F_law_value := F_law_value,
    g_law_value := PySem.W.mg_of X G a_law_value,
    b_law_value := b_law_value,
    a_law_whole := _,
    d_law_whole := _,
    F_law_whole := F_law_whole,
    g_law_whole := PySem.W.mg_of X G a_law_whole,
    b_law_whole := b_law_whole,
    a_law_is := _,
    d_law_is := _,
    F_law_is := F_law_is,
    g_law_is := PySem.W.mg_of X G a_law_is,
    b_law_is := b_law_is,
    a_law_given_refused := _,
    d_law_given_refused := _,
    F_law_given_refused := F_law_given_refused,
    g_law_given_refused := PySem.W.mg_of X G a_law_given_refused,
    b_law_given_refused := b_law_given_refused,
    a_law_product_refused := _,
    d_law_product_refused := _,
    F_law_product_refused := F_law_product_refused,
    g_law_product_refused := PySem.W.mg_of X G a_law_product_refused,
    b_law_product_refused := b_law_product_refused,
    a_law_power_refused := _,
    d_law_power_refused := _,
    F_law_power_refused := F_law_power_refused,
    g_law_power_refused := PySem.W.mg_of X G a_law_power_refused,
    b_law_power_refused := b_law_power_refused,
    a_law_value_refused := _,
    d_law_value_refused := _,
    F_law_value_refused := F_law_value_refused,
    g_law_value_refused := PySem.W.mg_of X G a_law_value_refused,
    b_law_value_refused := b_law_value_refused,
    a_law_sums := _,
    d_law_sums := _,
    F_law_sums := F_law_sums,
    g_law_sums := PySem.W.mg_of X G a_law_sums,
    b_law_sums := b_law_sums,
    a_law_values := _,
    d_law_values := _,
    F_law_values := F_law_values,
    g_law_values := PySem.W.mg_of X G a_law_values,
    b_law_values := b_law_values,
    a_law_unlike := _,
    d_law_unlike := _,
    F_law_unlike := F_law_unlike,
    g_law_unlike := PySem.W.mg_of X G a_law_unlike,
    b_law_unlike := b_law_unlike,
    a_law_bounds := _,
    d_law_bounds := _,
    F_law_bounds := F_law_bounds,
    g_law_bounds := PySem.W.mg_of X G a_law_bounds,
    b_law_bounds := b_law_bounds,
    a_law_limits := _,
    d_law_limits := _,
    F_law_limits := F_law_limits,
    g_law_limits := PySem.W.mg_of X G a_law_limits,
    b_law_limits := b_law_limits,
    a_law := _,
    d_law := _,
    F_law := F_law,
    g_law := PySem.W.mg_of X G a_law,
    b_law := b_law,
    z_abs := PySem.W.mg_none_of X G z_abs,
    z_bool := PySem.W.mg_none_of X G z_bool,
    z_enumerate := PySem.W.mg_none_of X G z_enumerate,
    z_int := PySem.W.mg_none_of X G z_int,
    z_isinstance := PySem.W.mg_none_of X G z_isinstance,
    z_len := PySem.W.mg_none_of X G z_len,
    z_list := PySem.W.mg_none_of X G z_list,
    z_max := PySem.W.mg_none_of X G z_max,
    z_min := PySem.W.mg_none_of X G z_min,
    z_range := PySem.W.mg_none_of X G z_range,
    z_reversed := PySem.W.mg_none_of X G z_reversed,
    z_tuple := PySem.W.mg_none_of X G z_tuple,
    tk_LARGEST_NUMBER := tk_LARGEST_NUMBER,
    c_LARGEST_NUMBER := PySem.W.mg_of X G v_LARGEST_NUMBER,
    tk_MOST_COEFFICIENTS := tk_MOST_COEFFICIENTS,
    c_MOST_COEFFICIENTS := PySem.W.mg_of X G v_MOST_COEFFICIENTS,
    C_OutOfBounds := C_OutOfBounds,
    I_OutOfBounds := I_OutOfBounds,
    D_OutOfBounds := _,
    x_OutOfBounds := fun {base} => ⟨PySem.W.mg_of X G a_OutOfBounds, T_OutOfBounds, i_OutOfBounds, t_OutOfBounds, ok_ini_OutOfBounds F_OutOfBounds T_OutOfBounds nb_OutOfBounds, b_OutOfBounds, ⟨ga_OutOfBounds, gg_OutOfBounds, eC_OutOfBounds, hC_OutOfBounds, ha_OutOfBounds, hn0, ht0, hm_OutOfBounds⟩, ⟨ga_OutOfBounds, gg_OutOfBounds, eC_OutOfBounds, hC_OutOfBounds⟩, nb_OutOfBounds⟩,
    C_TooMany := C_TooMany,
    I_TooMany := I_TooMany,
    D_TooMany := _,
    x_TooMany := fun {base} => ⟨PySem.W.mg_of X G a_TooMany, T_TooMany, i_TooMany, t_TooMany, ok_ini_TooMany F_TooMany T_TooMany nb_TooMany, b_TooMany, ⟨ga_TooMany, gg_TooMany, eC_TooMany, hC_TooMany, ha_TooMany, hn0, ht0, hm_TooMany⟩, ⟨ga_TooMany, gg_TooMany, eC_TooMany, hC_TooMany⟩, nb_TooMany⟩,
    gC_OutOfBounds := PySem.W.mg_of X G a_OutOfBounds,
    gC_TooMany := PySem.W.mg_of X G a_TooMany,
    C_WordError := C_WordError,
    gC_WordError := PySem.W.mg_of X G a_WordError,
    q_OutOfBounds_OutOfBounds := kit_ref hC_OutOfBounds tC_OutOfBounds S0_OutOfBounds S0_OutOfBounds,
    q_TooMany_OutOfBounds := kit_ref hC_OutOfBounds tC_OutOfBounds S_TooMany_OutOfBounds S0_TooMany,
    q_OutOfBounds_TooMany := kit_ref hC_TooMany tC_TooMany S_OutOfBounds_TooMany S0_OutOfBounds,
    q_TooMany_TooMany := kit_ref hC_TooMany tC_TooMany S0_TooMany S0_TooMany,
    q_OutOfBounds_WordError := kit_ref hC_WordError tC_WordError S_OutOfBounds_WordError S0_OutOfBounds,
    q_TooMany_WordError := kit_ref hC_WordError tC_WordError S_TooMany_WordError S0_TooMany,
    v_OutOfBounds_OutOfBounds := PySem.W.exm_ref eC_OutOfBounds hC_OutOfBounds tC_OutOfBounds S0_OutOfBounds,
    v_TooMany_OutOfBounds := PySem.W.exm_ref eC_OutOfBounds hC_OutOfBounds tC_OutOfBounds S_TooMany_OutOfBounds,
    v_OutOfBounds_TooMany := PySem.W.exm_ref eC_TooMany hC_TooMany tC_TooMany S_OutOfBounds_TooMany,
    v_TooMany_TooMany := PySem.W.exm_ref eC_TooMany hC_TooMany tC_TooMany S0_TooMany,
    v_OutOfBounds_WordError := PySem.W.exm_ref eC_WordError hC_WordError tC_WordError S_OutOfBounds_WordError,
    v_TooMany_WordError := PySem.W.exm_ref eC_WordError hC_WordError tC_WordError S_TooMany_WordError }
  exact ⟨PySem.W.fnOf "law" "law" (defArgs s_law) (defBody s_law) (defScope s_law) .none kV_law dc_law pm_law an_law cd_law ct_law, fun s v => .of_eq rfl, fun base _ _ => (ok_law (base := base) T).imp fun vs H Q E h => spLaw_sp h⟩
end
theorem walk {l : PySem.W.OpenLaw} {q : Program} {loose : List Str} {XP : (Str → Option Value) → Heap → Prop} {YP : World → Heap → Prop} {d : DefRec} {K : Params → PySem.W.Frag} (hn : l.most = some 63) (hdf : d.params.defaults = [])
    (hY : ∀ (w : World) (h : Heap), YP w h → (K w.params).In h)
    (F : ∀ (w : World) (mg : Str → Option Value) (fa : Addr) (h : Heap), (K w.params).In h → h.Ns mainGlobals mg → mg d.name = some (.ref fa) →
      ∃ fd : FuncData, (∀ (s : Shared) (u : Value), BindsTo s fd ⟨[u], []⟩ [("script", u)]) ∧ ∀ base : Heap, (K w.params).In base → base.Ns mainGlobals mg → FnOk l.prog w (K w.params) mg base (L2N.CX l.prog w) 9 fa fd ["script"] (spLaw m_law (K w.params))) :
    PySem.W.WalkO q loose XP YP l.row.toRowW d [] (fun f vs => PySem.call f vs) :=
  L2.walk_of (n := 63) (k := 9) (x := "script") (CX := fun w => L2N.CX l.prog w) (sp := fun w => spLaw m_law (K w.params)) hn (by decide) hdf ⟨rfl, by decide, by decide⟩ hY F (fun w H a ns hl _ hS => spLaw_of law_all (K w.params) H a ns hl hS) fun _ _ _ _ _ z => no_CX z
end G
open PySem PySem.W PyProof.Rows
set_option maxRecDepth 100000 in
set_option maxHeartbeats 0 in
theorem PySem.Challenge.cw_wordruns_k24_polynomials_holds : PySem.Challenge.rw_wordruns_k24_polynomials.Holds := by
  w_on; o_law; k_head; (case hw => w_witness2)
  k_fill
  refine G.walk (l := PySem.Challenge.rw_wordruns_k24_polynomials) rfl rfl (fun w h Y => PySem.W.kIn_of Y) ?F
  case F =>
    intro w mg fa h KX GG hmg
    refine' G.all_mk KX GG hmg ?a_Polynomial ?pg_Polynomial ?hd_Polynomial ?po_Polynomial ?sa_Polynomial ?mk_Polynomial ?kc_Polynomial ?sf_Polynomial ?na_Polynomial_coefficients ?oa_Polynomial ?om_Polynomial ?on_Polynomial ?on0 ?ot0 ?kty_Polynomial ?ksb_Polynomial ?ks_tuple_Polynomial ?nf_Polynomial_tuple ?a_Polynomial___init ?fn_Polynomial___init ?l_Polynomial___init ?c_Polynomial___init ?k_Polynomial___init ?a_Polynomial___init___v2 ?fn_Polynomial___init___v2 ?l_Polynomial___init___v2 ?c_Polynomial___init___v2 ?k_Polynomial___init___v2 ?rd_Polynomial_power ?ty_Polynomial_power ?ga_Polynomial_power ?a_Polynomial_power ?pr_Polynomial_power ?l_Polynomial_power ?c_Polynomial_power ?k_Polynomial_power ?a_Polynomial_degree ?pg_Polynomial_degree ?pt_Polynomial_degree ?pr_Polynomial_degree ?l_Polynomial_degree ?c_Polynomial_degree ?k_Polynomial_degree ?a_Polynomial___eq ?fn_Polynomial___eq ?l_Polynomial___eq ?c_Polynomial___eq ?k_Polynomial___eq ?a_Polynomial___eq___v2 ?fn_Polynomial___eq___v2 ?l_Polynomial___eq___v2 ?c_Polynomial___eq___v2 ?k_Polynomial___eq___v2 ?a_Polynomial___add ?fn_Polynomial___add ?bo_Polynomial___add ?l_Polynomial___add ?c_Polynomial___add ?k_Polynomial___add ?a_Polynomial___sub ?fn_Polynomial___sub ?bo_Polynomial___sub ?l_Polynomial___sub ?c_Polynomial___sub ?k_Polynomial___sub ?a_Polynomial___mul ?fn_Polynomial___mul ?bo_Polynomial___mul ?l_Polynomial___mul ?c_Polynomial___mul ?k_Polynomial___mul ?a_Polynomial_value_at ?fn_Polynomial_value_at ?l_Polynomial_value_at ?c_Polynomial_value_at ?k_Polynomial_value_at ?a_check_range ?l_check_range ?c_check_range ?k_check_range ?a_check_many ?l_check_many ?c_check_many ?k_check_many ?a_law_mix ?l_law_mix ?c_law_mix ?k_law_mix ?a_law_pool ?l_law_pool ?c_law_pool ?k_law_pool ?a_law_take ?l_law_take ?c_law_take ?k_law_take ?a_law_number ?l_law_number ?c_law_number ?k_law_number ?a_law_list ?l_law_list ?c_law_list ?k_law_list ?a_law_long ?l_law_long ?c_law_long ?k_law_long ?a_law_trimmed ?l_law_trimmed ?c_law_trimmed ?k_law_trimmed ?a_law_plus ?l_law_plus ?c_law_plus ?k_law_plus ?a_law_times ?l_law_times ?c_law_times ?k_law_times ?a_law_value ?l_law_value ?c_law_value ?k_law_value ?a_law_whole ?l_law_whole ?c_law_whole ?k_law_whole ?a_law_is ?l_law_is ?c_law_is ?k_law_is ?a_law_given_refused ?l_law_given_refused ?c_law_given_refused ?k_law_given_refused ?a_law_product_refused ?l_law_product_refused ?c_law_product_refused ?k_law_product_refused ?a_law_power_refused ?l_law_power_refused ?c_law_power_refused ?k_law_power_refused ?a_law_value_refused ?l_law_value_refused ?c_law_value_refused ?k_law_value_refused ?a_law_sums ?l_law_sums ?c_law_sums ?k_law_sums ?a_law_values ?l_law_values ?c_law_values ?k_law_values ?a_law_unlike ?l_law_unlike ?c_law_unlike ?k_law_unlike ?a_law_bounds ?l_law_bounds ?c_law_bounds ?k_law_bounds ?a_law_limits ?l_law_limits ?c_law_limits ?k_law_limits ?a_law ?l_law ?c_law ?k_law ?hn0 ?ht0 ?a_OutOfBounds ?x_OutOfBounds ?rv_OutOfBounds ?sa_OutOfBounds ?ga_OutOfBounds ?gg_OutOfBounds ?nb_OutOfBounds ?i_OutOfBounds ?t_OutOfBounds ?l_OutOfBounds ?c_OutOfBounds ?ki_OutOfBounds ?kC_OutOfBounds ?eC_OutOfBounds ?tC_OutOfBounds ?hC_OutOfBounds ?ha_OutOfBounds ?hm_OutOfBounds ?a_TooMany ?x_TooMany ?rv_TooMany ?sa_TooMany ?ga_TooMany ?gg_TooMany ?nb_TooMany ?i_TooMany ?t_TooMany ?l_TooMany ?c_TooMany ?ki_TooMany ?kC_TooMany ?eC_TooMany ?tC_TooMany ?hC_TooMany ?ha_TooMany ?hm_TooMany ?a_WordError ?eC_WordError ?tC_WordError ?hC_WordError ?S0_OutOfBounds ?S0_TooMany ?S_TooMany_OutOfBounds ?S_OutOfBounds_TooMany ?S_OutOfBounds_WordError ?S_TooMany_WordError ?z_abs ?z_bool ?z_enumerate ?z_int ?z_isinstance ?z_len ?z_list ?z_max ?z_min ?z_range ?z_reversed ?z_tuple ?v_LARGEST_NUMBER ?v_MOST_COEFFICIENTS
    (case a_Polynomial => k_is)
    (case pg_Polynomial => k_is)
    (case hd_Polynomial => k_is)
    (case po_Polynomial => k_is)
    (case sa_Polynomial => k_is)
    (case mk_Polynomial => k_is)
    (case kc_Polynomial => k_is)
    (case sf_Polynomial => k_is)
    (case na_Polynomial_coefficients => k_is)
    (case oa_Polynomial => k_is)
    (case om_Polynomial => k_is)
    (case on_Polynomial => k_is)
    (case on0 => k_is)
    (case ot0 => k_is)
    (case kty_Polynomial => k_is)
    (case ksb_Polynomial => first | rfl | k_is)
    (case ks_tuple_Polynomial => k_is)
    (case nf_Polynomial_tuple => k_is)
    (case a_Polynomial___init => k_is)
    (case fn_Polynomial___init => k_is)
    (case l_Polynomial___init => k_is)
    (case c_Polynomial___init => k_is)
    (case k_Polynomial___init => k_is)
    (case a_Polynomial___init___v2 => k_is)
    (case fn_Polynomial___init___v2 => k_is)
    (case l_Polynomial___init___v2 => k_is)
    (case c_Polynomial___init___v2 => k_is)
    (case k_Polynomial___init___v2 => k_is)
    (case rd_Polynomial_power => k_is)
    (case ty_Polynomial_power => k_is)
    (case ga_Polynomial_power => k_is)
    (case a_Polynomial_power => k_is)
    (case pr_Polynomial_power => k_is)
    (case l_Polynomial_power => k_is)
    (case c_Polynomial_power => k_is)
    (case k_Polynomial_power => k_is)
    (case a_Polynomial_degree => k_is)
    (case pg_Polynomial_degree => k_is)
    (case pt_Polynomial_degree => k_is)
    (case pr_Polynomial_degree => k_is)
    (case l_Polynomial_degree => k_is)
    (case c_Polynomial_degree => k_is)
    (case k_Polynomial_degree => k_is)
    (case a_Polynomial___eq => k_is)
    (case fn_Polynomial___eq => k_is)
    (case l_Polynomial___eq => k_is)
    (case c_Polynomial___eq => k_is)
    (case k_Polynomial___eq => k_is)
    (case a_Polynomial___eq___v2 => k_is)
    (case fn_Polynomial___eq___v2 => k_is)
    (case l_Polynomial___eq___v2 => k_is)
    (case c_Polynomial___eq___v2 => k_is)
    (case k_Polynomial___eq___v2 => k_is)
    (case a_Polynomial___add => k_is)
    (case fn_Polynomial___add => k_is)
    (case bo_Polynomial___add => k_is)
    (case l_Polynomial___add => k_is)
    (case c_Polynomial___add => k_is)
    (case k_Polynomial___add => k_is)
    (case a_Polynomial___sub => k_is)
    (case fn_Polynomial___sub => k_is)
    (case bo_Polynomial___sub => k_is)
    (case l_Polynomial___sub => k_is)
    (case c_Polynomial___sub => k_is)
    (case k_Polynomial___sub => k_is)
    (case a_Polynomial___mul => k_is)
    (case fn_Polynomial___mul => k_is)
    (case bo_Polynomial___mul => k_is)
    (case l_Polynomial___mul => k_is)
    (case c_Polynomial___mul => k_is)
    (case k_Polynomial___mul => k_is)
    (case a_Polynomial_value_at => k_is)
    (case fn_Polynomial_value_at => k_is)
    (case l_Polynomial_value_at => k_is)
    (case c_Polynomial_value_at => k_is)
    (case k_Polynomial_value_at => k_is)
    (case a_check_range => k_is)
    (case l_check_range => k_is)
    (case c_check_range => k_is)
    (case k_check_range => k_is)
    (case a_check_many => k_is)
    (case l_check_many => k_is)
    (case c_check_many => k_is)
    (case k_check_many => k_is)
    (case a_law_mix => k_is)
    (case l_law_mix => k_is)
    (case c_law_mix => k_is)
    (case k_law_mix => k_is)
    (case a_law_pool => k_is)
    (case l_law_pool => k_is)
    (case c_law_pool => k_is)
    (case k_law_pool => k_is)
    (case a_law_take => k_is)
    (case l_law_take => k_is)
    (case c_law_take => k_is)
    (case k_law_take => k_is)
    (case a_law_number => k_is)
    (case l_law_number => k_is)
    (case c_law_number => k_is)
    (case k_law_number => k_is)
    (case a_law_list => k_is)
    (case l_law_list => k_is)
    (case c_law_list => k_is)
    (case k_law_list => k_is)
    (case a_law_long => k_is)
    (case l_law_long => k_is)
    (case c_law_long => k_is)
    (case k_law_long => k_is)
    (case a_law_trimmed => k_is)
    (case l_law_trimmed => k_is)
    (case c_law_trimmed => k_is)
    (case k_law_trimmed => k_is)
    (case a_law_plus => k_is)
    (case l_law_plus => k_is)
    (case c_law_plus => k_is)
    (case k_law_plus => k_is)
    (case a_law_times => k_is)
    (case l_law_times => k_is)
    (case c_law_times => k_is)
    (case k_law_times => k_is)
    (case a_law_value => k_is)
    (case l_law_value => k_is)
    (case c_law_value => k_is)
    (case k_law_value => k_is)
    (case a_law_whole => k_is)
    (case l_law_whole => k_is)
    (case c_law_whole => k_is)
    (case k_law_whole => k_is)
    (case a_law_is => k_is)
    (case l_law_is => k_is)
    (case c_law_is => k_is)
    (case k_law_is => k_is)
    (case a_law_given_refused => k_is)
    (case l_law_given_refused => k_is)
    (case c_law_given_refused => k_is)
    (case k_law_given_refused => k_is)
    (case a_law_product_refused => k_is)
    (case l_law_product_refused => k_is)
    (case c_law_product_refused => k_is)
    (case k_law_product_refused => k_is)
    (case a_law_power_refused => k_is)
    (case l_law_power_refused => k_is)
    (case c_law_power_refused => k_is)
    (case k_law_power_refused => k_is)
    (case a_law_value_refused => k_is)
    (case l_law_value_refused => k_is)
    (case c_law_value_refused => k_is)
    (case k_law_value_refused => k_is)
    (case a_law_sums => k_is)
    (case l_law_sums => k_is)
    (case c_law_sums => k_is)
    (case k_law_sums => k_is)
    (case a_law_values => k_is)
    (case l_law_values => k_is)
    (case c_law_values => k_is)
    (case k_law_values => k_is)
    (case a_law_unlike => k_is)
    (case l_law_unlike => k_is)
    (case c_law_unlike => k_is)
    (case k_law_unlike => k_is)
    (case a_law_bounds => k_is)
    (case l_law_bounds => k_is)
    (case c_law_bounds => k_is)
    (case k_law_bounds => k_is)
    (case a_law_limits => k_is)
    (case l_law_limits => k_is)
    (case c_law_limits => k_is)
    (case k_law_limits => k_is)
    (case a_law => k_is)
    (case l_law => k_is)
    (case c_law => k_is)
    (case k_law => k_is)
    (case hn0 => k_is)
    (case ht0 => k_is)
    (case a_OutOfBounds => k_is)
    (case x_OutOfBounds => k_is)
    (case rv_OutOfBounds => rfl)
    (case sa_OutOfBounds => k_is)
    (case ga_OutOfBounds => k_is)
    (case gg_OutOfBounds => k_is)
    (case nb_OutOfBounds => k_is)
    (case i_OutOfBounds => k_is)
    (case t_OutOfBounds => k_is)
    (case l_OutOfBounds => k_is)
    (case c_OutOfBounds => k_is)
    (case ki_OutOfBounds => k_is)
    (case kC_OutOfBounds => k_is)
    (case eC_OutOfBounds => k_is)
    (case tC_OutOfBounds => k_is)
    (case hC_OutOfBounds => k_is)
    (case ha_OutOfBounds => k_is)
    (case hm_OutOfBounds => k_is)
    (case a_TooMany => k_is)
    (case x_TooMany => k_is)
    (case rv_TooMany => rfl)
    (case sa_TooMany => k_is)
    (case ga_TooMany => k_is)
    (case gg_TooMany => k_is)
    (case nb_TooMany => k_is)
    (case i_TooMany => k_is)
    (case t_TooMany => k_is)
    (case l_TooMany => k_is)
    (case c_TooMany => k_is)
    (case ki_TooMany => k_is)
    (case kC_TooMany => k_is)
    (case eC_TooMany => k_is)
    (case tC_TooMany => k_is)
    (case hC_TooMany => k_is)
    (case ha_TooMany => k_is)
    (case hm_TooMany => k_is)
    (case a_WordError => k_is)
    (case eC_WordError => k_is)
    (case tC_WordError => k_is)
    (case hC_WordError => k_is)
    (case S0_OutOfBounds => first | rfl | k_is)
    (case S0_TooMany => first | rfl | k_is)
    (case S_TooMany_OutOfBounds => k_is)
    (case S_OutOfBounds_TooMany => k_is)
    (case S_OutOfBounds_WordError => k_is)
    (case S_TooMany_WordError => k_is)
    (case z_abs => k_is)
    (case z_bool => k_is)
    (case z_enumerate => k_is)
    (case z_int => k_is)
    (case z_isinstance => k_is)
    (case z_len => k_is)
    (case z_list => k_is)
    (case z_max => k_is)
    (case z_min => k_is)
    (case z_range => k_is)
    (case z_reversed => k_is)
    (case z_tuple => k_is)
    (case v_LARGEST_NUMBER => k_is)
    (case v_MOST_COEFFICIENTS => k_is)
