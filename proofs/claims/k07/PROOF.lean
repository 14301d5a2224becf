import PyProof.Rows.All
import Wide.All
import OpenK.AllK
import Wide.FinOn
import HandS.ForMost
import HandS.Wide
import HandS.IsInst
import HandS.SortInts
import HandS.TupAny
import HandS.Conv
import HandS.ExcOwn
import HandS.WordsExc
import HandS.TryOnly
import KE.KSortedM
import KE.GoesEnum
import HandS.SortRule
import PySem.Challenge.RW_stilltofall_k07_least_and_widest
set_option Elab.async false
set_option linter.all false
set_option maxRecDepth 100000
/-! The data layer: values as trees, slots that own a list or hold frozen data. -/
namespace DL
open PySem PySem.Spec PyProof.Rows L2

/-- data as a tree -/
inductive D where
  | non | bl (b : Bool) | int (i : Int) | str (s : Str)
  | tup (ds : List D) | lst (ds : List D) | seq (ds : List D)
  | obj (C : Addr) (fs : List Str) (ds : List D)

/-- a list of the written part -/
def KL (K : PySem.W.Frag) (a : Addr) (xs : List V) : Prop :=
  ∃ (o : Obj) (its : Array Value) (n : Nat), K.lookup a = some o ∧ o.cls = .type "list" ∧ o.dict = none ∧ o.data = .seq its n ∧ its.size ≤ sizeLine ∧ Vals xs its.toList
/-- a list that nobody writes: the script, a list of the written part -/
def FrzL (K : PySem.W.Frag) (H : Hp) (a : Addr) (xs : List V) : Prop := (∃ o, H a = some (.frz o (.lst xs))) ∨ KL K a xs
theorem FrzL.sq {K H a xs} (h : FrzL K H a xs) : SqL K H a xs := h.imp (fun ⟨o, e⟩ => .inr ⟨o, e⟩) id
theorem sqL_cases {K H a xs} (h : SqL K H a xs) : H a = some (.lst xs) ∨ FrzL K H a xs := by
  rcases h with (h | h) | h
  · exact .inl h
  · exact .inr (.inl h)
  · exact .inr (.inr h)
mutual
/-- the value v is the data, no list of it at an address of A -/
def Rep (K : PySem.W.Frag) (A : Addr → Prop) (H : Hp) : D → V → Prop
  | .non, v => v = .non
  | .bl b, v => v = .bl b
  | .int i, v => v = .int i
  | .str s, v => v = .str s
  | .tup ds, v => ∃ a vs, v = .ref a ∧ SqT K H a vs ∧ RepL K A H ds vs
  | .lst ds, v => ∃ a vs, v = .ref a ∧ (H a = some (.lst vs) ∧ ¬ A a) ∧ RepL K A H ds vs
  | .seq ds, v => ∃ a vs, v = .ref a ∧ FrzL K H a vs ∧ RepL K A H ds vs
  | .obj C fs ds, v => ∃ a dx vs, v = .ref a ∧ H a = some (.ins C dx (fs.zip vs)) ∧ ¬ A a ∧ vs.length = fs.length ∧ RepL K A H ds vs
def RepL (K : PySem.W.Frag) (A : Addr → Prop) (H : Hp) : List D → List V → Prop
  | [], vs => vs = []
  | d :: ds, vs => ∃ v vs', vs = v :: vs' ∧ Rep K A H d v ∧ RepL K A H ds vs'
end
section
variable {K : PySem.W.Frag} {A A' : Addr → Prop} {H H' : Hp}
mutual
theorem Rep.mono (ht : ∀ a vs, SqT K H a vs → SqT K H' a vs) (hl : ∀ a vs, H a = some (.lst vs) ∧ ¬ A a → H' a = some (.lst vs) ∧ ¬ A' a) (hf : ∀ a vs, FrzL K H a vs → FrzL K H' a vs) (ho : ∀ a C dx fs, H a = some (.ins C dx fs) → ¬ A a → H' a = some (.ins C dx fs) ∧ ¬ A' a) :
    ∀ {d : D} {v : V}, Rep K A H d v → Rep K A' H' d v
  | .non, _, h => h
  | .bl _, _, h => h
  | .int _, _, h => h
  | .str _, _, h => h
  | .tup ds, v, h => by
    simp only [Rep] at h ⊢
    obtain ⟨a, vs, e, q, r⟩ := h
    exact ⟨a, vs, e, ht _ _ q, RepL.mono ht hl hf ho r⟩
  | .lst ds, v, h => by
    simp only [Rep] at h ⊢
    obtain ⟨a, vs, e, q, r⟩ := h
    exact ⟨a, vs, e, hl _ _ q, RepL.mono ht hl hf ho r⟩
  | .seq ds, v, h => by
    simp only [Rep] at h ⊢
    obtain ⟨a, vs, e, q, r⟩ := h
    exact ⟨a, vs, e, hf _ _ q, RepL.mono ht hl hf ho r⟩
  | .obj C fs ds, v, h => by
    simp only [Rep] at h ⊢
    obtain ⟨a, dx, vs, e, q, n, l, r⟩ := h
    obtain ⟨q', n'⟩ := ho _ _ _ _ q n
    exact ⟨a, dx, vs, e, q', n', l, RepL.mono ht hl hf ho r⟩
theorem RepL.mono (ht : ∀ a vs, SqT K H a vs → SqT K H' a vs) (hl : ∀ a vs, H a = some (.lst vs) ∧ ¬ A a → H' a = some (.lst vs) ∧ ¬ A' a) (hf : ∀ a vs, FrzL K H a vs → FrzL K H' a vs) (ho : ∀ a C dx fs, H a = some (.ins C dx fs) → ¬ A a → H' a = some (.ins C dx fs) ∧ ¬ A' a) :
    ∀ {ds : List D} {vs : List V}, RepL K A H ds vs → RepL K A' H' ds vs
  | [], _, h => h
  | d :: ds, vs, h => by
    simp only [RepL] at h ⊢
    obtain ⟨v, vs', e, r, rs⟩ := h
    exact ⟨v, vs', e, Rep.mono ht hl hf ho r, RepL.mono ht hl hf ho rs⟩
end
theorem RepL.length : ∀ {ds : List D} {vs : List V}, RepL K A H ds vs → vs.length = ds.length
  | [], vs, h => by simp only [RepL] at h; subst h; rfl
  | d :: ds, vs, h => by
    simp only [RepL] at h
    obtain ⟨v, vs', rfl, _, rs⟩ := h
    simp [RepL.length rs]
theorem RepL.get : ∀ {ds : List D} {vs : List V} {i : Nat} {d : D}, RepL K A H ds vs → ds[i]? = some d → ∃ v, vs[i]? = some v ∧ Rep K A H d v
  | [], vs, i, d, h, e => by simp at e
  | d :: ds, vs, 0, d', h, e => by
    simp only [RepL] at h
    obtain ⟨v, vs', rfl, r, rs⟩ := h
    simp at e; subst e
    exact ⟨v, rfl, r⟩
  | d :: ds, vs, i + 1, d', h, e => by
    simp only [RepL] at h
    obtain ⟨v, vs', rfl, r, rs⟩ := h
    obtain ⟨u, e1, e2⟩ := RepL.get rs (by simpa using e)
    exact ⟨u, by simpa using e1, e2⟩
theorem RepL.app : ∀ {ds es : List D} {vs us : List V}, RepL K A H ds vs → RepL K A H es us → RepL K A H (ds ++ es) (vs ++ us)
  | [], es, vs, us, h, h' => by simp only [RepL] at h; subst h; exact h'
  | d :: ds, es, vs, us, h, h' => by
    simp only [RepL] at h
    obtain ⟨v, vs', rfl, r, rs⟩ := h
    simp only [List.cons_append, RepL]
    exact ⟨v, _, rfl, r, RepL.app rs h'⟩
theorem RepL.set : ∀ {ds : List D} {vs : List V} {d : D} {v : V} (i : Nat), RepL K A H ds vs → Rep K A H d v → RepL K A H (ds.set i d) (vs.set i v)
  | [], vs, d, v, i, h, h' => by simp only [RepL] at h; subst h; simp [RepL]
  | e :: ds, vs, d, v, 0, h, h' => by
    simp only [RepL] at h
    obtain ⟨u, vs', rfl, r, rs⟩ := h
    simp only [List.set_cons_zero, RepL]
    exact ⟨_, _, rfl, h', rs⟩
  | e :: ds, vs, d, v, i + 1, h, h' => by
    simp only [RepL] at h
    obtain ⟨u, vs', rfl, r, rs⟩ := h
    simp only [List.set_cons_succ, RepL]
    exact ⟨_, _, rfl, r, RepL.set i rs h'⟩
theorem RepL.take : ∀ {ds : List D} {vs : List V} (n : Nat), RepL K A H ds vs → RepL K A H (ds.take n) (vs.take n)
  | ds, vs, 0, h => by simp [RepL]
  | [], vs, n + 1, h => by simp only [RepL] at h; subst h; simp [RepL]
  | d :: ds, vs, n + 1, h => by
    simp only [RepL] at h
    obtain ⟨u, vs', rfl, r, rs⟩ := h
    simp only [List.take_succ_cons, RepL]
    exact ⟨_, _, rfl, r, RepL.take n rs⟩
theorem RepL.drop : ∀ {ds : List D} {vs : List V} (n : Nat), RepL K A H ds vs → RepL K A H (ds.drop n) (vs.drop n)
  | ds, vs, 0, h => h
  | [], vs, n + 1, h => by simp only [RepL] at h; subst h; simp [RepL]
  | d :: ds, vs, n + 1, h => by
    simp only [RepL] at h
    obtain ⟨u, vs', rfl, r, rs⟩ := h
    exact RepL.drop n rs
theorem RepL.one {d : D} {v : V} (h : Rep K A H d v) : RepL K A H [d] [v] := by
  simp only [RepL]; exact ⟨v, [], rfl, h, rfl⟩
theorem RepL.nil : RepL K A H [] [] := by simp only [RepL]
theorem RepL.cons {d : D} {v : V} {ds : List D} {vs : List V} (h : Rep K A H d v) (h' : RepL K A H ds vs) : RepL K A H (d :: ds) (v :: vs) := by
  simp only [RepL]; exact ⟨v, vs, rfl, h, h'⟩
/-- what does not change, or only grows -/
theorem rd_ext {a : Addr} {u : HO} (h : Rd H a u) (hx : ∀ o, H a = some o → H' a = some o) : Rd H' a u := by
  rcases h with h | ⟨o, h⟩
  · exact .inl (hx _ h)
  · exact .inr ⟨o, hx _ h⟩
theorem rd_some {a : Addr} {u : HO} (h : Rd H a u) : H a ≠ none := by
  rcases h with h | ⟨o, h⟩ <;> (rw [h]; simp)
theorem Rep.ext {d : D} {v : V} (h : Rep K A H d v) (hx : ∀ a o, H a = some o → H' a = some o) : Rep K A H' d v :=
  Rep.mono (fun a vs q => Or.imp (fun z => rd_ext z (hx a)) id q) (fun a vs q => ⟨hx _ _ q.1, q.2⟩) (fun a vs q => Or.imp (fun ⟨o, z⟩ => ⟨o, hx _ _ z⟩) id q) (fun a C dx fs q n => ⟨hx _ _ q, n⟩) h
theorem RepL.ext {ds : List D} {vs : List V} (h : RepL K A H ds vs) (hx : ∀ a o, H a = some o → H' a = some o) : RepL K A H' ds vs :=
  RepL.mono (fun a vs q => Or.imp (fun z => rd_ext z (hx a)) id q) (fun a vs q => ⟨hx _ _ q.1, q.2⟩) (fun a vs q => Or.imp (fun ⟨o, z⟩ => ⟨o, hx _ _ z⟩) id q) (fun a C dx fs q n => ⟨hx _ _ q, n⟩) h
/-- a smaller set, or a greater one by addresses that hold nothing -/
theorem Rep.less {d : D} {v : V} (h : Rep K A H d v) (hx : ∀ a, A' a → A a ∨ H a = none) : Rep K A' H d v :=
  Rep.mono (fun a vs q => q) (fun a vs q => ⟨q.1, fun y => (hx a y).elim q.2 (fun w => by rw [q.1] at w; cases w)⟩) (fun a vs q => q) (fun a C dx fs q n => ⟨q, fun y => (hx a y).elim n (fun w => by rw [q] at w; cases w)⟩) h
theorem RepL.less {ds : List D} {vs : List V} (h : RepL K A H ds vs) (hx : ∀ a, A' a → A a ∨ H a = none) : RepL K A' H ds vs :=
  RepL.mono (fun a vs q => q) (fun a vs q => ⟨q.1, fun y => (hx a y).elim q.2 (fun w => by rw [q.1] at w; cases w)⟩) (fun a vs q => q) (fun a C dx fs q n => ⟨q, fun y => (hx a y).elim n (fun w => by rw [q] at w; cases w)⟩) h
/-- lists of A may be other ones: all else stands -/
theorem sqT_off {a : Addr} {vs : List V} (q : SqT K H a vs) (hx : ∀ a o, H a = some o → (∀ xs, o ≠ .lst xs) → H' a = some o) : SqT K H' a vs := by
  refine Or.imp (fun z => ?_) id q
  rcases z with z | ⟨o, z⟩
  · exact .inl (hx _ _ z (fun xs e => by cases e))
  · exact .inr ⟨o, hx _ _ z (fun xs e => by cases e)⟩
theorem frzL_off {a : Addr} {vs : List V} (q : FrzL K H a vs) (hx : ∀ a o, H a = some o → (∀ xs, o ≠ .lst xs) → H' a = some o) : FrzL K H' a vs := by
  refine Or.imp (fun ⟨o, z⟩ => ?_) id q
  exact ⟨o, hx _ _ z (fun xs e => by cases e)⟩
theorem Rep.off {d : D} {v : V} (h : Rep K A H d v) (h1 : ∀ a o, H a = some o → (∀ xs, o ≠ .lst xs) → H' a = some o) (h2 : ∀ a o, H a = some o → ¬ A a → H' a = some o) : Rep K A H' d v :=
  Rep.mono (fun a vs q => sqT_off q h1) (fun a vs q => ⟨h2 _ _ q.1 q.2, q.2⟩) (fun a vs q => frzL_off q h1) (fun a C dx fs q n => ⟨h2 _ _ q n, n⟩) h
theorem RepL.off {ds : List D} {vs : List V} (h : RepL K A H ds vs) (h1 : ∀ a o, H a = some o → (∀ xs, o ≠ .lst xs) → H' a = some o) (h2 : ∀ a o, H a = some o → ¬ A a → H' a = some o) : RepL K A H' ds vs :=
  RepL.mono (fun a vs q => sqT_off q h1) (fun a vs q => ⟨h2 _ _ q.1 q.2, q.2⟩) (fun a vs q => frzL_off q h1) (fun a C dx fs q n => ⟨h2 _ _ q n, n⟩) h
end

/-! ### slots -/
inductive SV where
  | un | fz (d : D) | own (d : D) | loc (i : Nat)
/-- what a body knows of its surroundings -/
structure Fc where
  K : PySem.W.Frag
  T : Addr → Prop
  H0 : Hp
  W : Addr → Prop
  cv : Nat → Bool
  pin : Nat → Option V
def RepO (K : PySem.W.Frag) (A : Addr → Prop) (H : Hp) : D → Addr → Prop
  | .lst ds, p => ∃ vs, H p = some (.lst vs) ∧ RepL K A H ds vs
  | _, _ => False
abbrev Pl := List (SV × Option V)
def ownA : SV × Option V → Option Addr
  | (.own _, some (.ref p)) => some p
  | _ => none
def Own (P : Pl) : List Addr := P.filterMap ownA
def Av (c : Fc) (P : Pl) (a : Addr) : Prop := c.T a ∨ a ∈ Own P
def RS (c : Fc) (A : Addr → Prop) (H : Hp) (σ : L2.St) : SV → Option V → Prop
  | .un, _ => True
  | .fz d, ov => ∃ v, ov = some v ∧ Rep c.K A H d v
  | .own d, ov => ∃ p, ov = some (.ref p) ∧ RepO c.K A H d p
  | .loc i, ov => c.cv i = false ∧ ∃ v, ov = some v ∧ σ[i]? = some (some v)
structure G (c : Fc) (σ : L2.St) (P : Pl) (H : Hp) : Prop where
  rs : ∀ x ∈ P, RS c (Av c P) H σ x.1 x.2
  nd : (Own P).Nodup
  fr : ∀ a o, c.H0 a = some o → ¬ c.W a → H a = some o
  new : ∀ a ∈ Own P, c.W a ∨ c.H0 a = none
  tt : ∀ a, c.T a → c.H0 a ≠ none ∧ ¬ c.W a
  pn : ∀ i v, c.pin i = some v → σ[i]? = some (some v)
section
variable {c : Fc} {σ : L2.St} {P P' : Pl} {H H' : Hp} {x : SV × Option V} {sv : SV} {d : D} {ds : List D} {v : V} {vs : List V} {p : Addr}
theorem own_perm (h : P.Perm P') : (Own P).Perm (Own P') := h.filterMap _
theorem G.perm (g : G c σ P H) (h : P.Perm P') : G c σ P' H := by
  have e := own_perm h
  have ea : Av c P = Av c P' := by funext a; exact propext (or_congr Iff.rfl e.mem_iff)
  exact ⟨fun x hx => ea ▸ g.rs x (h.mem_iff.mpr hx), e.nodup_iff.mp g.nd, g.fr, fun a ha => g.new a (e.mem_iff.mpr ha), g.tt, g.pn⟩
theorem G.hold (g : G c σ P H) {a : Addr} (h : Av c P a) : H a ≠ none := by
  rcases h with h | h
  · obtain ⟨h1, h2⟩ := g.tt a h
    cases e : c.H0 a with
    | none => exact absurd e h1
    | some o => rw [g.fr a o e h2]; simp
  · obtain ⟨⟨sv, ov⟩, hx, e⟩ := List.mem_filterMap.mp h
    have r := g.rs _ hx
    cases sv with
    | own d =>
      obtain ⟨p, e2, r⟩ := r
      simp only at e2
      subst e2
      simp only [ownA, Option.some.injEq] at e
      subst e
      cases d <;> simp only [RepO] at r
      obtain ⟨vs, e, _⟩ := r
      rw [e]; simp
    | _ => simp [ownA] at e
theorem own_cons_fz : Own ((.fz d, some v) :: P) = Own P := rfl
theorem own_cons_un {o : Option V} : Own ((.un, o) :: P) = Own P := rfl
theorem own_cons_loc {i : Nat} {o : Option V} : Own ((.loc i, o) :: P) = Own P := rfl
theorem own_cons_own : Own ((.own d, some (.ref p)) :: P) = p :: Own P := rfl
theorem G.ext (g : G c σ P H) (hx : ∀ a o, H a = some o → H' a = some o) : G c σ P H' := by
  refine ⟨fun x h => ?_, g.nd, fun a o e w => hx _ _ (g.fr a o e w), g.new, g.tt, g.pn⟩
  have r := g.rs x h
  obtain ⟨sv, ov⟩ := x
  cases sv with
  | un => trivial
  | fz d => obtain ⟨v, e, r⟩ := r; exact ⟨v, e, r.ext hx⟩
  | own d =>
    obtain ⟨p, e, r⟩ := r
    refine ⟨p, e, ?_⟩
    cases d <;> simp only [RepO] at r ⊢
    obtain ⟨vs, e, r⟩ := r
    exact ⟨vs, hx _ _ e, r.ext hx⟩
  | loc i => exact r
/-- other entries, the same owned addresses or fewer -/
theorem G.sub (g : G c σ P H) (h1 : ∀ x ∈ P', x ∈ P ∨ RS c (Av c P') H σ x.1 x.2) (h2 : (Own P').Sublist (Own P)) : G c σ P' H := by
  have hle : ∀ a, Av c P' a → Av c P a := fun a h => h.imp id fun z => h2.subset z
  refine ⟨fun x h => ?_, g.nd.sublist h2, g.fr, fun a ha => g.new a (h2.subset ha), g.tt, g.pn⟩
  rcases h1 x h with h | h
  · have r := g.rs x h
    obtain ⟨sv, ov⟩ := x
    cases sv with
    | un => trivial
    | fz d => obtain ⟨v, e, r⟩ := r; exact ⟨v, e, r.less fun a y => .inl (hle a y)⟩
    | own d =>
      obtain ⟨p, e, r⟩ := r
      refine ⟨p, e, ?_⟩
      cases d <;> simp only [RepO] at r ⊢
      obtain ⟨vs, e, r⟩ := r
      exact ⟨vs, e, r.less fun a y => .inl (hle a y)⟩
    | loc i => exact r
  · exact h
theorem G.drop (g : G c σ (x :: P) H) : G c σ P H := by
  refine g.sub (fun y h => .inl (List.mem_cons_of_mem _ h)) ?_
  unfold Own
  rw [List.filterMap_cons]
  split
  · exact List.Sublist.refl _
  · exact List.sublist_cons_self _ _
theorem G.push_fz (g : G c σ P H) (r : Rep c.K (Av c P) H d v) : G c σ ((.fz d, some v) :: P) H :=
  g.sub (fun y h => (List.mem_cons.mp h).elim (fun e => by subst e; exact .inr ⟨v, rfl, r⟩) .inl) (List.Sublist.refl _)
theorem G.push_un {o : Option V} (g : G c σ P H) : G c σ ((.un, o) :: P) H :=
  g.sub (fun y h => (List.mem_cons.mp h).elim (fun e => by subst e; exact .inr trivial) .inl) (List.Sublist.refl _)
theorem G.push_loc {i : Nat} (g : G c σ P H) (h1 : c.cv i = false) (h2 : σ[i]? = some (some v)) : G c σ ((.loc i, some v) :: P) H :=
  g.sub (fun y h => (List.mem_cons.mp h).elim (fun e => by subst e; exact .inr ⟨h1, v, rfl, h2⟩) .inl) (List.Sublist.refl _)
theorem G.own_at (g : G c σ ((.own d, some v) :: P) H) : ∃ p ds vs, v = .ref p ∧ d = .lst ds ∧ H p = some (.lst vs) ∧ RepL c.K (Av c ((.own d, some v) :: P)) H ds vs ∧ p ∉ Own P ∧ ¬ c.T p ∧ (c.W p ∨ c.H0 p = none) := by
  obtain ⟨p, e, r⟩ := g.rs _ List.mem_cons_self
  simp only at e
  cases e
  cases d <;> simp only [RepO] at r
  obtain ⟨vs, e, r⟩ := r
  have n := g.nd
  rw [own_cons_own] at n
  have w := g.new p (by rw [own_cons_own]; exact List.mem_cons_self)
  refine ⟨p, _, vs, rfl, rfl, e, r, (List.nodup_cons.mp n).1, fun t => ?_, w⟩
  obtain ⟨a, b⟩ := g.tt p t
  exact w.elim b a
theorem G.freeze (g : G c σ ((.own d, some v) :: P) H) : G c σ ((.fz d, some v) :: P) H := by
  obtain ⟨p, ds, vs, rfl, rfl, e, r, n1, n2, n3⟩ := g.own_at
  refine g.sub (fun y h => (List.mem_cons.mp h).elim (fun e => .inr ?_) fun z => .inl (List.mem_cons_of_mem _ z)) (List.sublist_cons_self _ _)
  subst e
  refine ⟨.ref p, rfl, ?_⟩
  simp only [Rep]
  refine ⟨p, vs, rfl, ⟨e, fun z => z.elim n2 n1⟩, r.less fun a y => .inl (y.imp id fun z => ?_)⟩
  exact List.mem_cons_of_mem _ z
theorem G.push_new (g : G c σ P H) (hp : H p = none) (hp' : H' p = some (.lst vs)) (hx : ∀ a o, H a = some o → H' a = some o) (r : RepL c.K (Av c P) H ds vs) : G c σ ((.own (.lst ds), some (.ref p)) :: P) H' := by
  have na : ¬ Av c P p := fun z => g.hold z hp
  have g' := g.ext hx
  have up : ∀ a, Av c ((.own (.lst ds), some (.ref p)) :: P) a → Av c P a ∨ H a = none := fun a z => by
    rcases z with z | z
    · exact .inl (.inl z)
    · rw [own_cons_own] at z
      rcases List.mem_cons.mp z with rfl | z
      · exact .inr hp
      · exact .inl (.inr z)
  refine ⟨fun x h => ?_, ?_, g'.fr, fun a h => ?_, g.tt, g.pn⟩
  · rcases List.mem_cons.mp h with rfl | h
    · exact ⟨p, rfl, vs, hp', (r.less up).ext hx⟩
    · have q := g.rs x h
      obtain ⟨sv, ov⟩ := x
      cases sv with
      | un => trivial
      | fz d => obtain ⟨v, e, q⟩ := q; exact ⟨v, e, (q.less up).ext hx⟩
      | own d =>
        obtain ⟨p, e, q⟩ := q
        refine ⟨p, e, ?_⟩
        cases d <;> simp only [RepO] at q ⊢
        obtain ⟨vs, e, q⟩ := q
        exact ⟨vs, hx _ _ e, (q.less up).ext hx⟩
      | loc i => exact q
  · rw [own_cons_own]
    exact List.nodup_cons.mpr ⟨fun z => na (.inr z), g.nd⟩
  · rw [own_cons_own] at h
    rcases List.mem_cons.mp h with rfl | h
    · by_cases w : c.W a
      · exact .inl w
      · refine .inr ?_
        cases e : c.H0 a with
        | none => rfl
        | some o => rw [g.fr a o e w] at hp; cases hp
    · exact g.new a h

theorem G.push_any (g : G c σ P H) (hp : H p = none) (hp' : H' p = some (.lst vs)) (hx : ∀ a o, H a = some o → H' a = some o) (r : ∀ A, RepL c.K A H' ds vs) : G c σ ((.own (.lst ds), some (.ref p)) :: P) H' := by
  have na : ¬ Av c P p := fun z => g.hold z hp
  have g' := g.ext hx
  have up : ∀ a, Av c ((.own (.lst ds), some (.ref p)) :: P) a → Av c P a ∨ H a = none := fun a z => by
    rcases z with z | z
    · exact .inl (.inl z)
    · rw [own_cons_own] at z
      rcases List.mem_cons.mp z with rfl | z
      · exact .inr hp
      · exact .inl (.inr z)
  refine ⟨fun x h => ?_, ?_, g'.fr, fun a h => ?_, g.tt, g.pn⟩
  · rcases List.mem_cons.mp h with rfl | h
    · exact ⟨p, rfl, vs, hp', r _⟩
    · have q := g.rs x h
      obtain ⟨sv, ov⟩ := x
      cases sv with
      | un => trivial
      | fz d => obtain ⟨v, e, q⟩ := q; exact ⟨v, e, (q.less up).ext hx⟩
      | own d =>
        obtain ⟨p, e, q⟩ := q
        refine ⟨p, e, ?_⟩
        cases d <;> simp only [RepO] at q ⊢
        obtain ⟨vs, e, q⟩ := q
        exact ⟨vs, hx _ _ e, (q.less up).ext hx⟩
      | loc i => exact q
  · rw [own_cons_own]
    exact List.nodup_cons.mpr ⟨fun z => na (.inr z), g.nd⟩
  · rw [own_cons_own] at h
    rcases List.mem_cons.mp h with rfl | h
    · by_cases w : c.W a
      · exact .inl w
      · refine .inr ?_
        cases e : c.H0 a with
        | none => rfl
        | some o => rw [g.fr a o e w] at hp; cases hp
    · exact g.new a h

theorem G.upd (g : G c σ ((.own (.lst ds), some (.ref p)) :: P) H) {ds' : List D} {vs' : List V} (r : RepL c.K (Av c ((.own (.lst ds), some (.ref p)) :: P)) H ds' vs') (hp : H' p = some (.lst vs')) (hx : ∀ a o, a ≠ p → H a = some o → H' a = some o) :
    G c σ ((.own (.lst ds'), some (.ref p)) :: P) H' := by
  obtain ⟨p0, ds0, vs0, e1, e2, e, r0, n1, n2, n3⟩ := g.own_at
  cases e1
  cases e2
  have ap : Av c ((.own (.lst ds), some (.ref p)) :: P) p := .inr (by rw [own_cons_own]; exact List.mem_cons_self)
  have o1 : ∀ a o, H a = some o → (∀ xs, o ≠ .lst xs) → H' a = some o := fun a o h z => hx a o (fun q => by subst q; rw [e] at h; cases h; exact z _ rfl) h
  have o2 : ∀ a o, H a = some o → ¬ Av c ((.own (.lst ds), some (.ref p)) :: P) a → H' a = some o := fun a o h z => hx a o (fun q => by subst q; exact z ap) h
  refine ⟨fun x h => ?_, g.nd, fun a o q w => ?_, g.new, g.tt, g.pn⟩
  · rcases List.mem_cons.mp h with rfl | hm
    · exact ⟨p, rfl, vs', hp, r.off o1 o2⟩
    · have q := g.rs x (List.mem_cons_of_mem _ hm)
      obtain ⟨sv, ov⟩ := x
      cases sv with
      | un => trivial
      | fz d => obtain ⟨v, e, q⟩ := q; exact ⟨v, e, q.off o1 o2⟩
      | own d =>
        obtain ⟨p2, e3, q⟩ := q
        simp only at e3
        subst e3
        refine ⟨p2, rfl, ?_⟩
        cases d <;> simp only [RepO] at q ⊢
        obtain ⟨vs2, e4, q⟩ := q
        refine ⟨vs2, hx _ _ (fun z => n1 ?_) e4, q.off o1 o2⟩
        subst z
        exact List.mem_filterMap.mpr ⟨_, hm, by rfl⟩
      | loc i => exact q
  · refine hx _ _ (fun z => ?_) (g.fr a o q w)
    subst z
    rcases n3 with n3 | n3
    · exact w n3
    · rw [n3] at q; cases q
theorem G.sig {σ' : L2.St} (g : G c σ P H) (h : ∀ i v, (SV.loc i, some v) ∈ P → σ[i]? = some (some v) → σ'[i]? = some (some v)) (hp : ∀ i v, c.pin i = some v → σ[i]? = some (some v) → σ'[i]? = some (some v)) : G c σ' P H := by
  refine ⟨fun x hx => ?_, g.nd, g.fr, g.new, g.tt, fun i v e => hp i v e (g.pn i v e)⟩
  have r := g.rs x hx
  obtain ⟨sv, ov⟩ := x
  cases sv with
  | loc i =>
    obtain ⟨r1, v, r2, r3⟩ := r
    simp only at r2
    subst r2
    exact ⟨r1, v, rfl, h i v hx r3⟩
  | _ => exact r
end

/-! ### slots and temporaries -/
abbrev Ts := List (SV × V)
def tsP (ts : Ts) : Pl := ts.map fun t => (t.1, some t.2)
structure R (c : Fc) (σ : L2.St) (ρ : List SV) (ts : Ts) (H : Hp) : Prop where
  len : ρ.length = σ.length
  nl : ∀ i, SV.loc i ∉ ρ
  g : G c σ (tsP ts ++ ρ.zip σ) H
section
variable {c : Fc} {σ : L2.St} {ρ : List SV} {ts : Ts} {H H' : Hp} {sv : SV} {d : D} {ds : List D} {v : V} {vs : List V} {p : Addr} {i : Nat}
theorem R.ext (r : R c σ ρ ts H) (hx : ∀ a o, H a = some o → H' a = some o) : R c σ ρ ts H' := ⟨r.len, r.nl, r.g.ext hx⟩
theorem R.pop {t : SV × V} (r : R c σ ρ (t :: ts) H) : R c σ ρ ts H := ⟨r.len, r.nl, r.g.drop⟩
abbrev Avr (c : Fc) (σ : L2.St) (ρ : List SV) (ts : Ts) := Av c (tsP ts ++ ρ.zip σ)
theorem R.push_fz (r : R c σ ρ ts H) (h : Rep c.K (Avr c σ ρ ts) H d v) : R c σ ρ ((.fz d, v) :: ts) H := ⟨r.len, r.nl, r.g.push_fz h⟩
theorem R.push_new (r : R c σ ρ ts H) (hp : H p = none) (hp' : H' p = some (.lst vs)) (hx : ∀ a o, H a = some o → H' a = some o) (h : RepL c.K (Avr c σ ρ ts) H ds vs) : R c σ ρ ((.own (.lst ds), .ref p) :: ts) H' := ⟨r.len, r.nl, r.g.push_new hp hp' hx h⟩
theorem R.push_any (r : R c σ ρ ts H) (hp : H p = none) (hp' : H' p = some (.lst vs)) (hx : ∀ a o, H a = some o → H' a = some o) (h : ∀ A, RepL c.K A H' ds vs) : R c σ ρ ((.own (.lst ds), .ref p) :: ts) H' := ⟨r.len, r.nl, r.g.push_any hp hp' hx h⟩
theorem R.freeze (r : R c σ ρ ((.own d, v) :: ts) H) : R c σ ρ ((.fz d, v) :: ts) H := ⟨r.len, r.nl, r.g.freeze⟩
theorem R.top_fz (r : R c σ ρ ((.fz d, v) :: ts) H) : Rep c.K (Avr c σ ρ ts) H d v := by
  obtain ⟨w, e, q⟩ := r.g.rs _ List.mem_cons_self
  cases e
  exact q
theorem R.top_own (r : R c σ ρ ((.own d, v) :: ts) H) : ∃ p ds vs, v = .ref p ∧ d = .lst ds ∧ H p = some (.lst vs) ∧ RepL c.K (Avr c σ ρ ts) H ds vs := by
  obtain ⟨p, ds, vs, e1, e2, e3, q, _⟩ := r.g.own_at
  refine ⟨p, ds, vs, e1, e2, e3, q.less fun a y => .inl (y.imp id fun z => ?_)⟩
  subst e1
  show a ∈ Own ((SV.own d, some (V.ref p)) :: (tsP ts ++ ρ.zip σ))
  rw [own_cons_own]
  exact List.mem_cons_of_mem _ z
theorem zip_get (hl : ρ.length = σ.length) (h : ρ[i]? = some sv) : ∃ ov, σ[i]? = some ov ∧ (ρ.zip σ)[i]? = some (sv, ov) := by
  obtain ⟨h1, h2⟩ := List.getElem?_eq_some_iff.mp h
  have h3 : i < σ.length := by omega
  refine ⟨σ[i], by simp [h3], ?_⟩
  rw [List.getElem?_zip_eq_some]
  exact ⟨h, by simp [h3]⟩
theorem perm_at {α : Type} {x : α} : ∀ {l : List α} {i : Nat}, l[i]? = some x → l.Perm (x :: l.eraseIdx i)
  | [], i, h => by simp at h
  | y :: l, 0, h => by simp at h; subst h; exact .refl _
  | y :: l, i + 1, h => by
    have ih := perm_at (l := l) (i := i) (by simpa using h)
    simp only [List.eraseIdx_cons_succ]
    exact (ih.cons y).trans (.swap _ _ _)
theorem perm_set {α : Type} {x : α} : ∀ {l : List α} {i : Nat}, i < l.length → (l.set i x).Perm (x :: l.eraseIdx i)
  | [], i, h => by simp at h
  | y :: l, 0, h => by simp
  | y :: l, i + 1, h => by
    have ih := perm_set (x := x) (l := l) (i := i) (by simpa using h)
    simp only [List.eraseIdx_cons_succ, List.set_cons_succ]
    exact (ih.cons y).trans (.swap _ _ _)
theorem zip_set (x : SV) (y : Option V) : (ρ.set i x).zip (σ.set i y) = (ρ.zip σ).set i (x, y) := by
  induction ρ generalizing σ i with
  | nil => simp
  | cons a ρ ih =>
    cases σ with
    | nil => simp
    | cons b σ => cases i <;> simp [ih]
theorem set_same {α : Type} {l : List α} {x : α} (h : l[i]? = some x) : l.set i x = l := by
  apply List.ext_getElem?
  intro j
  by_cases e : i = j
  · subst e
    obtain ⟨h1, h2⟩ := List.getElem?_eq_some_iff.mp h
    rw [List.getElem?_set_self h1, h]
  · rw [List.getElem?_set_ne e]
/-- slot i is taken out of the row -/
theorem R.at (r : R c σ ρ ts H) (h : ρ[i]? = some sv) : ∃ ov, σ[i]? = some ov ∧ G c σ ((sv, ov) :: (tsP ts ++ (ρ.zip σ).eraseIdx i)) H ∧
    ∀ sv' ov' σ' H', (∀ j, sv' ≠ .loc j) → G c σ' ((sv', ov') :: (tsP ts ++ (ρ.zip σ).eraseIdx i)) H' → σ' = σ.set i ov' → R c σ' (ρ.set i sv') ts H' := by
  obtain ⟨ov, e1, e2⟩ := zip_get r.len h
  refine ⟨ov, e1, ?_, fun sv' ov' σ' H' nl g e => ?_⟩
  · exact r.g.perm ((List.Perm.append_left _ (perm_at e2)).trans List.perm_middle)
  · subst e
    refine ⟨by simp [r.len], fun j hm => ?_, ?_⟩
    · rcases List.mem_or_eq_of_mem_set hm with z | z
      · exact r.nl j z
      · exact nl j z.symm
    rw [zip_set]
    have hl : i < (ρ.zip σ).length := (List.getElem?_eq_some_iff.mp e2).1
    exact g.perm ((List.Perm.append_left _ (perm_set hl)).trans List.perm_middle).symm
theorem R.slot_fz (r : R c σ ρ ts H) (h : ρ[i]? = some (.fz d)) : ∃ v, σ[i]? = some (some v) ∧ R c σ ρ ((.fz d, v) :: ts) H := by
  obtain ⟨ov, e1, g, _⟩ := r.at h
  obtain ⟨ov', e1', e2⟩ := zip_get r.len h
  rw [e1] at e1'; cases e1'
  have hm : (SV.fz d, ov) ∈ tsP ts ++ ρ.zip σ := List.mem_append_right _ (List.mem_of_getElem? e2)
  obtain ⟨v, e, q⟩ := r.g.rs _ hm
  simp only at e
  subst e
  exact ⟨v, e1, r.push_fz q⟩
theorem R.slot_own (r : R c σ ρ ts H) (h : ρ[i]? = some (.own d)) : ∃ p ds vs, σ[i]? = some (some (.ref p)) ∧ d = .lst ds ∧ H p = some (.lst vs) ∧ RepL c.K (Avr c σ ρ ts) H ds vs := by
  obtain ⟨ov, e1, e2⟩ := zip_get r.len h
  have hm : (SV.own d, ov) ∈ tsP ts ++ ρ.zip σ := List.mem_append_right _ (List.mem_of_getElem? e2)
  obtain ⟨p, e, q⟩ := r.g.rs _ hm
  simp only at e
  subst e
  cases d <;> simp only [RepO] at q
  obtain ⟨vs, e3, q⟩ := q
  exact ⟨p, _, vs, e1, rfl, e3, q⟩
theorem R.push_loc (r : R c σ ρ ts H) (h : σ[i]? = some (some v)) (hc : c.cv i = false) : R c σ ρ ((.loc i, v) :: ts) H := ⟨r.len, r.nl, r.g.push_loc hc h⟩
theorem R.demote (r : R c σ ρ ts H) (h : ρ[i]? = some (.own d)) : R c σ (ρ.set i (.fz d)) ts H := by
  obtain ⟨p, ds, vs, e1, _⟩ := r.slot_own h
  obtain ⟨ov, e2, g, k⟩ := r.at h
  rw [e1] at e2; cases e2
  exact k _ _ _ _ (fun j z => by cases z) g.freeze (set_same e1).symm
/-- a temporary that names slot i, the slot being frozen: a frozen one -/
theorem R.loc_fz (r : R c σ ρ ((.loc i, v) :: ts) H) (h : ρ[i]? = some (.fz d)) : R c σ ρ ((.fz d, v) :: ts) H := by
  obtain ⟨_, w, e, e2⟩ := r.g.rs _ List.mem_cons_self
  cases e
  obtain ⟨u, e3, q⟩ := r.pop.slot_fz h
  rw [e2] at e3; cases e3
  exact q
theorem R.loc_at (r : R c σ ρ ((.loc i, v) :: ts) H) : σ[i]? = some (some v) := by
  obtain ⟨_, w, e, e2⟩ := r.g.rs _ List.mem_cons_self
  cases e
  exact e2
def NoLoc (ts : Ts) : Prop := ∀ i v, (SV.loc i, v) ∉ ts
/-- the top is stored -/
theorem R.store (r : R c σ ρ ((sv, v) :: ts) H) (n : NoLoc ((sv, v) :: ts)) (hi : i < σ.length) (hp : c.pin i = none) : R c (σ.set i (some v)) (ρ.set i sv) ts H := by
  have hr : i < ρ.length := by rw [r.len]; exact hi
  obtain ⟨ov, e1, g, k⟩ := r.at (i := i) (sv := ρ[i]) (by simp [hr])
  have k' := (r.pop.at (i := i) (sv := ρ[i]) (by simp [hr]))
  obtain ⟨ov', e1', g', k'⟩ := k'
  refine k' sv (some v) _ H (fun j z => n j v (by rw [z]; exact List.mem_cons_self)) ?_ rfl
  have g2 : G c σ ((sv, some v) :: (tsP ts ++ (ρ.zip σ).eraseIdx i)) H := by
    have g3 : G c σ ((ρ[i], ov) :: (sv, some v) :: (tsP ts ++ (ρ.zip σ).eraseIdx i)) H := g
    exact g3.drop
  refine G.sig g2 (fun j w hm => ?_) fun j w e h => by
    rw [List.getElem?_set_ne (fun z => by subst z; rw [hp] at e; cases e)]; exact h
  exfalso
  rcases List.mem_cons.mp hm with z | z
  · cases z
    exact n j _ List.mem_cons_self
  · rcases List.mem_append.mp z with z | z
    · obtain ⟨t, ht, e⟩ := List.mem_map.mp z
      cases t
      cases e
      exact n j _ (List.mem_cons_of_mem _ ht)
    · have z := List.mem_of_mem_eraseIdx z
      exact r.nl j (List.of_mem_zip z).1
/-- slot i's list is another one -/
theorem R.write (r : R c σ ρ ts H) (h : ρ[i]? = some (.own (.lst ds))) (hs : σ[i]? = some (some (.ref p))) {ds' : List D} {vs' : List V} (q : RepL c.K (Avr c σ ρ ts) H ds' vs') (hp : H' p = some (.lst vs')) (hx : ∀ a o, a ≠ p → H a = some o → H' a = some o) :
    R c σ (ρ.set i (.own (.lst ds'))) ts H' := by
  obtain ⟨ov, e1, g, k⟩ := r.at h
  rw [hs] at e1; cases e1
  have ea : Avr c σ ρ ts = Av c ((SV.own (.lst ds), some (.ref p)) :: (tsP ts ++ (ρ.zip σ).eraseIdx i)) := by
    obtain ⟨ov', e1', e2⟩ := zip_get r.len h
    rw [hs] at e1'; cases e1'
    funext a
    exact propext (or_congr Iff.rfl (own_perm ((List.Perm.append_left _ (perm_at e2)).trans List.perm_middle)).mem_iff)
  refine k _ (some (.ref p)) _ _ (fun j z => by cases z) (g.upd (ea ▸ q) hp hx) (set_same hs).symm
/-- slot i is forgotten -/
theorem R.forget (r : R c σ ρ ts H) (h : ρ[i]? = some sv) : R c σ (ρ.set i .un) ts H := by
  obtain ⟨ov, e1, g, k⟩ := r.at h
  exact k .un ov _ _ (fun j z => by cases z) g.drop.push_un (set_same e1).symm
end
end DL

set_option Elab.async false
set_option linter.all false
set_option maxRecDepth 100000
/-! The data layer: what an expression means over slots of data. -/
namespace DL
open PySem PySem.Spec PyProof.Rows L2

structure Ex where
  cls : Value
  fs : List (Str × D)
inductive Res (α : Type) where
  | ok (a : α) (ρ : List SV)
  | er (e : Ex) (ρ : List SV)
abbrev M (α : Type) := List SV → Option (Res α)
def M.bnd {α β : Type} (m : M α) (f : α → M β) : M β := fun ρ => match m ρ with
  | some (.ok a ρ') => f a ρ'
  | some (.er e ρ') => some (.er e ρ')
  | none => none
def ret {α : Type} (a : α) : M α := fun ρ => some (.ok a ρ)
def ExRep (K : PySem.W.Frag) (A : Addr → Prop) (H : Hp) (e : Ex) (cls : Value) (od : Option Addr) : Prop :=
  cls = e.cls ∧ (match e.fs with
    | [] => True
    | fs => ∃ d vs, od = some d ∧ H d = some (.xd ((fs.map (·.1)).zip vs)) ∧ RepL K A H (fs.map (·.2)) vs)
abbrev WX := Value → Option Addr → L2.St → Hp → Prop
def W0 : WX := fun _ _ _ _ => False
def PostE (c : Fc) (W : WX) (σ : L2.St) (ts : Ts) (Q : VK) : Option (Res SV) → Prop
  | some (.ok sv ρ) => ∀ v H, R c σ ρ ((sv, v) :: ts) H → Q v H
  | some (.er e ρ) => ∀ cls od H, R c σ ρ ts H → ExRep c.K (Avr c σ ρ ts) H e cls od → W cls od σ H
  | none => False
def tDE (c : Fc) (W : WX) (m : M SV) : TE := fun σ H Q => ∃ ρ ts, R c σ ρ ts H ∧ PostE c W σ ts Q (m ρ)
def PostA (c : Fc) (W : WX) (σ : L2.St) (ts : Ts) (Q : List V → Hp → Prop) : Option (Res (List SV)) → Prop
  | some (.ok svs ρ) => ∀ vs H, svs.length = vs.length → R c σ ρ (svs.zip vs ++ ts) H → Q vs H
  | some (.er e ρ) => ∀ cls od H, R c σ ρ ts H → ExRep c.K (Avr c σ ρ ts) H e cls od → W cls od σ H
  | none => False
def tDA (c : Fc) (W : WX) (m : M (List SV)) : TA := fun σ H Q => ∃ ρ ts, R c σ ρ ts H ∧ PostA c W σ ts Q (m ρ)
def PostT (c : Fc) (W : WX) (σ : L2.St) (ts : Ts) (Q : Bool → Hp → Prop) : Option (Res Bool) → Prop
  | some (.ok b ρ) => ∀ H, R c σ ρ ts H → Q b H
  | some (.er e ρ) => ∀ cls od H, R c σ ρ ts H → ExRep c.K (Avr c σ ρ ts) H e cls od → W cls od σ H
  | none => False
def tDT (c : Fc) (W : WX) (m : M Bool) : TT := fun σ H Q => ∃ ρ ts, R c σ ρ ts H ∧ PostT c W σ ts Q (m ρ)

theorem pe_imp {X : Cx} {e : Expr} {t t' : TE} (h : PE X e t) (hi : ∀ σ H Q, t' σ H Q → t σ H Q) : PE X e t' := ⟨fun pins s σ H Q I q => h.run pins s σ H Q I (hi _ _ _ q)⟩
theorem pt_imp {X : Cx} {e : Expr} {t t' : TT} (h : PT X e t) (hi : ∀ σ H Q, t' σ H Q → t σ H Q) : PT X e t' := ⟨fun pins s σ H Q I q => h.run pins s σ H Q I (hi _ _ _ q)⟩
theorem pw_imp {X : Cx} {e : Expr} {t t' : TT} (h : PW X e t) (hi : ∀ σ H Q, t' σ H Q → t σ H Q) : PW X e t' := ⟨fun wh pins s σ H Q I q => h.run wh pins s σ H Q I (hi _ _ _ q)⟩
theorem pa_imp {X : Cx} {es : List Expr} {t t' : TA} (h : PA X es t) (hi : ∀ σ H Q, t' σ H Q → t σ H Q) : PA X es t' := ⟨fun pos pins s σ H Q I q => h.run pos pins s σ H Q I (hi _ _ _ q)⟩
section
variable {c : Fc} {W : WX} {σ : L2.St} {ρ : List SV} {ts ts' : Ts} {H H' : Hp} {sv : SV} {d : D} {ds : List D} {v : V} {vs : List V} {p : Addr} {i : Nat} {Q : VK}
theorem R.perm (r : R c σ ρ ts H) (h : ts.Perm ts') : R c σ ρ ts' H := ⟨r.len, r.nl, r.g.perm ((h.map _).append_right _)⟩
theorem avr_fz : Avr c σ ρ ((.fz d, v) :: ts) = Avr c σ ρ ts := rfl
theorem avr_loc : Avr c σ ρ ((.loc i, v) :: ts) = Avr c σ ρ ts := rfl
/-- an error seen with fewer temporaries -/
theorem ExRep.less {K : PySem.W.Frag} {A A' : Addr → Prop} {e : Ex} {cls : Value} {od : Option Addr} (h : ExRep K A H e cls od) (hx : ∀ a, A' a → A a) : ExRep K A' H e cls od := by
  refine ⟨h.1, ?_⟩
  have h2 := h.2
  cases e with
  | mk cl fs =>
  cases fs with
  | nil => trivial
  | cons f fs =>
    obtain ⟨d, vs, e1, e2, r⟩ := h2
    exact ⟨d, vs, e1, e2, r.less fun a y => .inl (hx a y)⟩
theorem avr_sub {t : SV × V} : ∀ a, Avr c σ ρ ts a → Avr c σ ρ (t :: ts) a := fun a h => h.imp id fun z => by
  show a ∈ List.filterMap ownA ((t.1, some t.2) :: (tsP ts ++ ρ.zip σ))
  rw [List.filterMap_cons]
  split
  · exact z
  · exact List.mem_cons_of_mem _ z
theorem avr_subs : ∀ (us : Ts) a, Avr c σ ρ ts a → Avr c σ ρ (us ++ ts) a
  | [], a, h => h
  | t :: us, a, h => avr_sub a (avr_subs us a h)
theorem R.pops : ∀ (us : Ts), R c σ ρ (us ++ ts) H → R c σ ρ ts H
  | [], r => r
  | t :: us, r => R.pops us r.pop
/-- the reading of a bind -/
theorem bnd_some {α β : Type} {m : M α} {f : α → M β} {a : α} {ρ' : List SV} (h : m ρ = some (.ok a ρ')) : (m.bnd f) ρ = f a ρ' := by unfold M.bnd; rw [h]
theorem bnd_er {α β : Type} {m : M α} {f : α → M β} {e : Ex} {ρ' : List SV} (h : m ρ = some (.er e ρ')) : (m.bnd f) ρ = some (.er e ρ') := by unfold M.bnd; rw [h]
theorem bnd_none {α β : Type} {m : M α} {f : α → M β} (h : m ρ = none) : (m.bnd f) ρ = none := by unfold M.bnd; rw [h]
/-- first m, then what follows, of any ending kind -/
theorem bindE {m : M SV} {f : SV → M SV} (r : R c σ ρ ts H) (h : PostE c W σ ts Q ((m.bnd f) ρ)) {Q' : VK} (k : ∀ sv v ρ' H', R c σ ρ' ((sv, v) :: ts) H' → PostE c W σ ts Q (f sv ρ') → Q' v H') : tDE c W m σ H Q' := by
  refine ⟨ρ, ts, r, ?_⟩
  cases e : m ρ with
  | none => rw [bnd_none e] at h; exact h
  | some x =>
    cases x with
    | er x ρ' => rw [bnd_er e] at h; exact h
    | ok sv ρ' => rw [bnd_some e] at h; exact fun v H' r' => k sv v ρ' H' r' h
/-- .. with a temporary held meanwhile -/
theorem bindE1 {m : M SV} {f : SV → M SV} {t : SV × V} (r : R c σ ρ (t :: ts) H) (h : PostE c W σ ts Q ((m.bnd f) ρ)) {Q' : VK} (k : ∀ sv v ρ' H', R c σ ρ' ((sv, v) :: t :: ts) H' → PostE c W σ ts Q (f sv ρ') → Q' v H') : tDE c W m σ H Q' := by
  refine ⟨ρ, t :: ts, r, ?_⟩
  cases e : m ρ with
  | none => rw [bnd_none e] at h; exact h
  | some x =>
    cases x with
    | er x ρ' =>
      rw [bnd_er e] at h
      exact fun cls od H' r' q => h cls od H' r'.pop (q.less avr_sub)
    | ok sv ρ' => rw [bnd_some e] at h; exact fun v H' r' => k sv v ρ' H' r' h
theorem fin_fz (r : R c σ ρ ts H) (q : Rep c.K (Avr c σ ρ ts) H d v) (h : PostE c W σ ts Q (some (.ok (.fz d) ρ))) : Q v H := h v H (r.push_fz q)
theorem fin_new (r : R c σ ρ ts H) (q : RepL c.K (Avr c σ ρ ts) H ds vs) (hp : H p = none) (h : PostE c W σ ts Q (some (.ok (.own (.lst ds)) ρ))) : Q (.ref p) (upd H p (.lst vs)) :=
  h _ _ (r.push_new hp upd_same (fun a o e => by rw [upd_ne (ne_of_none e hp)]; exact e) q)
theorem ext_new {o : HO} (hp : H p = none) : ∀ a u, H a = some u → upd H p o a = some u := fun a u e => by rw [upd_ne (ne_of_none e hp)]; exact e
theorem fin_tup (r : R c σ ρ ts H) (q : RepL c.K (Avr c σ ρ ts) H ds vs) (hp : H p = none) (h : PostE c W σ ts Q (some (.ok (.fz (.tup ds)) ρ))) : Q (.ref p) (upd H p (.tup vs)) := by
  refine h _ _ ((r.ext (ext_new hp)).push_fz ?_)
  simp only [Rep]
  exact ⟨p, vs, rfl, SqT.of upd_same, q.ext (ext_new hp)⟩

/-! ### contents -/
def con (ρ : List SV) : SV → Option D
  | .fz d => some d
  | .own d => some d
  | .loc i => match ρ[i]? with
    | some (.own d) => some d
    | some (.fz d) => some d
    | _ => none
  | .un => none
/-- as Rep, the list at the root at any address -/
def RepR (K : PySem.W.Frag) (A : Addr → Prop) (H : Hp) : D → V → Prop
  | .lst ds, v => ∃ a vs, v = .ref a ∧ H a = some (.lst vs) ∧ RepL K A H ds vs
  | d, v => Rep K A H d v
theorem Rep.root {K : PySem.W.Frag} {A : Addr → Prop} (h : Rep K A H d v) : RepR K A H d v := by
  cases d with
  | lst ds =>
    simp only [Rep] at h
    obtain ⟨a, vs, e, q, r⟩ := h
    exact ⟨a, vs, e, q.1, r⟩
  | _ => exact h
theorem tsP_mem {t : SV × V} (h : t ∈ ts) : (t.1, some t.2) ∈ tsP ts := List.mem_map.mpr ⟨t, h, rfl⟩
theorem R.con (r : R c σ ρ ts H) (hm : (sv, v) ∈ ts) (h : con ρ sv = some d) : RepR c.K (Avr c σ ρ ts) H d v := by
  have q := r.g.rs _ (List.mem_append_left _ (tsP_mem hm))
  cases sv with
  | un => simp [DL.con] at h
  | fz d' =>
    simp only [DL.con, Option.some.injEq] at h
    subst h
    obtain ⟨w, e, q⟩ := q
    cases e
    exact q.root
  | own d' =>
    simp only [DL.con, Option.some.injEq] at h
    subst h
    obtain ⟨w, e, q⟩ := q
    cases e
    cases d' <;> simp only [RepO] at q
    obtain ⟨vs, e, q⟩ := q
    exact ⟨w, vs, rfl, e, q⟩
  | loc i =>
    obtain ⟨_, w, e, e2⟩ := q
    cases e
    simp only [DL.con] at h
    cases e3 : ρ[i]? with
    | none => rw [e3] at h; cases h
    | some sv' =>
      rw [e3] at h
      cases sv' with
      | own d' =>
        cases h
        obtain ⟨p, ds, vs, e4, rfl, e5, q⟩ := r.slot_own e3
        rw [e2] at e4; cases e4
        exact ⟨p, vs, rfl, e5, q⟩
      | fz d' =>
        cases h
        obtain ⟨u, e4, q⟩ := r.slot_fz e3
        rw [e2] at e4; cases e4
        exact q.top_fz.root
      | _ => cases h
/-- a value leaves its place: it is frozen -/
def esc : SV → M D
  | .fz d => ret d
  | .own d => ret d
  | .loc i => fun ρ => match ρ[i]? with
    | some (.own d) => some (.ok d (ρ.set i (.fz d)))
    | some (.fz d) => some (.ok d ρ)
    | _ => none
  | .un => fun _ => none
theorem r_esc (r : R c σ ρ ((sv, v) :: ts) H) {ρ' : List SV} (h : esc sv ρ = some (.ok d ρ')) : R c σ ρ' ((.fz d, v) :: ts) H := by
  cases sv with
  | un => simp [DL.esc] at h
  | fz d' => simp only [DL.esc, ret, Option.some.injEq, Res.ok.injEq] at h; obtain ⟨rfl, rfl⟩ := h; exact r
  | own d' => simp only [DL.esc, ret, Option.some.injEq, Res.ok.injEq] at h; obtain ⟨rfl, rfl⟩ := h; exact r.freeze
  | loc i =>
    simp only [DL.esc] at h
    cases e3 : ρ[i]? with
    | none => rw [e3] at h; cases h
    | some sv' =>
      rw [e3] at h
      cases sv' with
      | own d' =>
        simp only [Option.some.injEq, Res.ok.injEq] at h; obtain ⟨rfl, rfl⟩ := h
        have hl : i < ρ.length := (List.getElem?_eq_some_iff.mp e3).1
        exact (r.demote e3).loc_fz (by simp [hl])
      | fz d' =>
        simp only [Option.some.injEq, Res.ok.injEq] at h; obtain ⟨rfl, rfl⟩ := h
        exact r.loc_fz e3
      | _ => cases h
theorem esc_er {e : Ex} {ρ' : List SV} : esc sv ρ ≠ some (.er e ρ') := by
  cases sv with
  | un => simp [DL.esc]
  | fz d' => simp [DL.esc, ret]
  | own d' => simp [DL.esc, ret]
  | loc i =>
    simp only [DL.esc]
    split <;> simp
def escs : List SV → M (List D)
  | [] => ret []
  | s :: ss => (esc s).bnd fun d => (escs ss).bnd fun ds => ret (d :: ds)
/-- all of a row of temporaries leave -/
theorem r_escs : ∀ {svs : List SV} {vs : List V} {ρ ρ' : List SV} {ts : Ts} {ds : List D}, R c σ ρ (svs.zip vs ++ ts) H → svs.length = vs.length → escs svs ρ = some (.ok ds ρ') → R c σ ρ' ts H ∧ RepL c.K (Avr c σ ρ' ts) H ds vs
  | [], vs, ρ, ρ', ts, ds, r, hl, h => by
    simp only [DL.escs, ret, Option.some.injEq, Res.ok.injEq] at h
    obtain ⟨rfl, rfl⟩ := h
    cases vs with
    | nil => exact ⟨r, RepL.nil⟩
    | cons _ _ => cases hl
  | s :: ss, vs, ρ, ρ', ts, ds, r, hl, h => by
    cases vs with
    | nil => cases hl
    | cons v vs =>
    simp only [DL.escs] at h
    cases e : esc s ρ with
    | none => rw [bnd_none e] at h; cases h
    | some x =>
      cases x with
      | er x _ => exact absurd e esc_er
      | ok d ρ1 =>
        rw [bnd_some e] at h
        cases e2 : escs ss ρ1 with
        | none => rw [bnd_none e2] at h; cases h
        | some x =>
          cases x with
          | er x _ => rw [bnd_er e2] at h; cases h
          | ok ds1 ρ2 =>
            rw [bnd_some e2] at h
            simp only [ret, Option.some.injEq, Res.ok.injEq] at h
            obtain ⟨rfl, rfl⟩ := h
            have r1 : R c σ ρ1 ((.fz d, v) :: (ss.zip vs ++ ts)) H := r_esc r e
            have r2 : R c σ ρ1 (ss.zip vs ++ ((.fz d, v) :: ts)) H := r1.perm List.perm_middle.symm
            obtain ⟨r3, q⟩ := r_escs r2 (by simpa using hl) e2
            exact ⟨r3.pop, RepL.cons r3.top_fz q⟩
theorem escs_er : ∀ {svs : List SV} {ρ ρ' : List SV} {e : Ex}, escs svs ρ ≠ some (.er e ρ')
  | [], ρ, ρ', e => by simp [DL.escs, ret]
  | s :: ss, ρ, ρ', e => by
    simp only [DL.escs]
    cases e1 : esc s ρ with
    | none => rw [bnd_none e1]; simp
    | some x =>
      cases x with
      | er x _ => exact absurd e1 esc_er
      | ok d ρ1 =>
        rw [bnd_some e1]
        cases e2 : escs ss ρ1 with
        | none => rw [bnd_none e2]; simp
        | some x =>
          cases x with
          | er x _ => exact absurd e2 escs_er
          | ok ds1 ρ2 => rw [bnd_some e2]; simp [ret]
end

/-! ### expressions -/
def mC (d : D) : M SV := ret (.fz d)
def mVar (cv : Nat → Bool) (i : Nat) : M SV := fun ρ => match ρ[i]? with
  | some (.fz d) => some (.ok (.fz d) ρ)
  | some (.own _) => if cv i = false then some (.ok (.loc i) ρ) else none
  | _ => none
section
variable {X : Cx} {c : Fc} {W : WX} {pos : Pos} {a b : Expr} {ma mb : M SV}
theorem pd_var {i : Nat} {x : Str} (h : PE X (.Name x pos) (tVar i)) : PE X (.Name x pos) (tDE c W (mVar c.cv i)) := by
  refine pe_imp h fun σ H Q ⟨ρ, ts, r, q⟩ => ?_
  unfold mVar at q
  cases e : ρ[i]? with
  | none => rw [e] at q; exact q.elim
  | some sv =>
    rw [e] at q
    cases sv with
    | fz d =>
      obtain ⟨v, e2, r2⟩ := r.slot_fz e
      exact ⟨v, e2, q v H r2⟩
    | own d =>
      obtain ⟨p, ds, vs, e2, _⟩ := r.slot_own e
      refine ⟨_, e2, ?_⟩
      simp only at q
      split at q
      · rename_i hc
        exact q _ H (r.push_loc e2 hc)
      · exact q.elim
    | _ => exact q.elim
theorem pd_c {e : Expr} {v : V} {d : D} (h : PE X e (tC v)) (hv : ∀ A H, Rep c.K A H d v) : PE X e (tDE c W (mC d)) := by
  refine pe_imp h fun σ H Q ⟨ρ, ts, r, q⟩ => ?_
  exact fin_fz r (hv _ _) q
theorem pd_int {i j} : PE X (.Constant (.int i) j pos) (tDE c W (mC (.int i))) := pd_c pe_int fun A H => by simp only [Rep]
theorem pd_bl {b j} : PE X (.Constant (.bool b) j pos) (tDE c W (mC (.bl b))) := pd_c pe_bl fun A H => by simp only [Rep]
theorem pd_non {j} : PE X (.Constant .none j pos) (tDE c W (mC .non)) := pd_c pe_non fun A H => by simp only [Rep]
theorem pd_str {x j} : PE X (.Constant (.str x) j pos) (tDE c W (mC (.str x))) := pd_c pe_str fun A H => by simp only [Rep]
def mBin (sem : SV → SV → M SV) (ma mb : M SV) : M SV := ma.bnd fun x => mb.bnd fun y => sem x y
/-- a two-place rule does what sem says -/
def OpS (K : PySem.W.Frag) (r : R2) (sem : SV → SV → M SV) : Prop := ∀ (c : Fc) (W : WX) (σ : L2.St) (ρ : List SV) (ts : Ts) (H : Hp) (s1 s2 : SV) (v1 v2 : V) (Q : VK), c.K = K →
  R c σ ρ ((s2, v2) :: (s1, v1) :: ts) H → PostE c W σ ts Q (sem s1 s2 ρ) → r v1 v2 H Q
theorem opS_or1 {K : PySem.W.Frag} {r r' : R2} {sem : SV → SV → M SV} (h : OpS K r sem) : OpS K (fun x y H Q => r x y H Q ∨ r' x y H Q) sem := fun c W σ ρ ts H s1 s2 v1 v2 Q e R q => .inl (h c W σ ρ ts H s1 s2 v1 v2 Q e R q)
theorem read2 {r : R2} {sem : SV → SV → M SV} (hs : OpS c.K r sem) {σ : L2.St} {H : Hp} {Q : VK} (h : tDE c W (mBin sem ma mb) σ H Q) : tOp r (tDE c W ma) (tDE c W mb) σ H Q := by
  obtain ⟨ρ, ts, R, q⟩ := h
  refine bindE R q fun s1 v1 ρ1 H1 R1 q1 => ?_
  refine bindE1 R1 q1 fun s2 v2 ρ2 H2 R2 q2 => ?_
  exact hs c W σ ρ2 ts H2 s1 s2 v1 v2 Q rfl R2 q2
theorem pd_bin {op : Operator} {r : R2} {sem : SV → SV → M SV} (ho : OpR X (binaryOp op) r) (hs : OpS c.K r sem) (ha : PE X a (tDE c W ma)) (hb : PE X b (tDE c W mb)) : PE X (.BinOp a op b pos) (tDE c W (mBin sem ma mb)) :=
  pe_imp (pe_op ho ha hb) fun σ H Q h => read2 hs h
theorem pd_cmp {op : CmpOp} {r : R2} {sem : SV → SV → M SV} (ho : OpR X (compareOp op) r) (hs : OpS c.K r sem) (hm : behindInMarks op b = false) (ha : PE X a (tDE c W ma)) (hb : PE X b (tDE c W mb)) : PE X (.Compare a [op] [b] pos) (tDE c W (mBin sem ma mb)) :=
  pe_imp (pe_cmpR ho ha hb hm) fun σ H Q h => read2 hs h
def mTest (m : M SV) : M Bool := m.bnd fun s => match s with
  | .fz (.bl b) => ret b
  | _ => fun _ => none
theorem pt_cmp {op : CmpOp} {r : R2} {sem : SV → SV → M SV} (ho : OpR X (compareOp op) r) (hs : OpS c.K r sem) (hm : behindInMarks op b = false) (ha : PE X a (tDE c W ma)) (hb : PE X b (tDE c W mb)) : PT X (.Compare a [op] [b] pos) (tDT c W (mTest (mBin sem ma mb))) := by
  refine pt_imp (pt_cmpR ho ha hb hm) fun σ H Q h => ?_
  obtain ⟨ρ, ts, R, q⟩ := h
  show tOp r (tDE c W ma) (tDE c W mb) σ H _
  refine read2 hs ⟨ρ, ts, R, ?_⟩
  cases e : mBin sem ma mb ρ with
  | none => unfold mTest at q; rw [bnd_none e] at q; exact q.elim
  | some x =>
    cases x with
    | er x ρ' => unfold mTest at q; rw [bnd_er e] at q; exact q
    | ok sv ρ' =>
      unfold mTest at q; rw [bnd_some e] at q
      intro v H' R'
      split at q
      · rename_i bb
        have z := R'.top_fz
        simp only [Rep] at z
        subst z
        exact ⟨bb, rfl, q H' R'.pop⟩
      · exact q.elim
end
end DL

set_option Elab.async false
set_option linter.all false
set_option maxRecDepth 100000
/-! The data layer: operators and built-ins on data. -/
namespace DL
open PySem PySem.Spec PyProof.Rows L2

/-- what a built-in hands back -/
inductive BR where
  | imm (d : D) | newL (ds : List D) | newT (ds : List D) | anyT (ds : List D)
def BR.res (ρ : List SV) : BR → Res SV
  | .imm d => .ok (.fz d) ρ
  | .newL ds => .ok (.own (.lst ds)) ρ
  | .newT ds => .ok (.fz (.tup ds)) ρ
  | .anyT ds => .ok (.fz (.tup ds)) ρ
def BRQ (K : PySem.W.Frag) (A : Addr → Prop) (H : Hp) : BR → VK → Prop
  | .imm d, Q => ∀ v, Rep K A H d v → Q v H
  | .newL ds, Q => ∀ vs p, RepL K A H ds vs → H p = none → Q (.ref p) (upd H p (.lst vs))
  | .newT ds, Q => ∀ vs p, RepL K A H ds vs → H p = none → Q (.ref p) (upd H p (.tup vs))
  | .anyT ds, Q => (∀ v, Rep K A H (.tup ds) v → Q v H) ∧ ∀ vs p, RepL K A H ds vs → H p = none → Q (.ref p) (upd H p (.tup vs))
def RepRL (K : PySem.W.Frag) (A : Addr → Prop) (H : Hp) : List D → List V → Prop
  | [], vs => vs = []
  | d :: ds, vs => ∃ v vs', vs = v :: vs' ∧ RepR K A H d v ∧ RepRL K A H ds vs'
section
variable {c : Fc} {W : WX} {σ : L2.St} {ρ : List SV} {ts us : Ts} {H : Hp} {sv : SV} {d : D} {ds : List D} {v : V} {vs : List V} {Q : VK} {b : BR}
theorem fin_br (r : R c σ ρ (us ++ ts) H) (h : PostE c W σ ts Q (some (b.res ρ))) : BRQ c.K (Avr c σ ρ (us ++ ts)) H b Q := by
  have r' := R.pops us r
  cases b with
  | imm d => exact fun v q => fin_fz r' (q.less fun a y => .inl (avr_subs us a y)) h
  | newL ds => exact fun vs p q hp => fin_new r' (q.less fun a y => .inl (avr_subs us a y)) hp h
  | newT ds => exact fun vs p q hp => fin_tup r' (q.less fun a y => .inl (avr_subs us a y)) hp h
  | anyT ds => exact ⟨fun v q => fin_fz r' (q.less fun a y => .inl (avr_subs us a y)) h, fun vs p q hp => fin_tup r' (q.less fun a y => .inl (avr_subs us a y)) hp h⟩
def cons (ρ : List SV) : List SV → Option (List D)
  | [] => some []
  | s :: ss => match con ρ s, cons ρ ss with
    | some d, some ds => some (d :: ds)
    | _, _ => none
theorem r_cons : ∀ {svs : List SV} {vs : List V} {ts : Ts} {ds : List D}, R c σ ρ ts H → (∀ t ∈ svs.zip vs, t ∈ ts) → svs.length = vs.length → cons ρ svs = some ds → RepRL c.K (Avr c σ ρ ts) H ds vs
  | [], vs, ts, ds, r, hm, hl, h => by
    simp only [cons, Option.some.injEq] at h
    subst h
    cases vs with
    | nil => rfl
    | cons _ _ => cases hl
  | s :: ss, vs, ts, ds, r, hm, hl, h => by
    cases vs with
    | nil => cases hl
    | cons v vs =>
    simp only [cons] at h
    split at h
    · rename_i d ds' e1 e2
      cases h
      exact ⟨v, vs, rfl, r.con (hm (s, v) List.mem_cons_self) e1, r_cons r (fun t ht => hm t (List.mem_cons_of_mem _ ht)) (by simpa using hl) e2⟩
    · cases h
end
def OpB (K : PySem.W.Frag) (r : R2) (f : D → D → Option BR) : Prop := ∀ (A : Addr → Prop) (H : Hp) (d1 d2 : D) (v1 v2 : V) (b : BR) (Q : VK), RepR K A H d1 v1 → RepR K A H d2 v2 → f d1 d2 = some b → BRQ K A H b Q → r v1 v2 H Q
def UnB (K : PySem.W.Frag) (r : V → Hp → VK → Prop) (f : D → Option BR) : Prop := ∀ (A : Addr → Prop) (H : Hp) (d1 : D) (v1 : V) (b : BR) (Q : VK), RepR K A H d1 v1 → f d1 = some b → BRQ K A H b Q → r v1 H Q
def CallB (K : PySem.W.Frag) (r : List V → Hp → VK → Prop) (f : List D → Option BR) : Prop := ∀ (A : Addr → Prop) (H : Hp) (ds : List D) (vs : List V) (b : BR) (Q : VK), RepRL K A H ds vs → f ds = some b → BRQ K A H b Q → r vs H Q
def bres (b : Option BR) (ρ : List SV) : Option (Res SV) := match b with
  | some b => some (b.res ρ)
  | none => none
def lift1 (f : D → Option BR) (s : SV) : M SV := fun ρ => match con ρ s with
  | some d => bres (f d) ρ
  | none => none
def lift2 (f : D → D → Option BR) (s1 s2 : SV) : M SV := fun ρ => match con ρ s1, con ρ s2 with
  | some d1, some d2 => bres (f d1 d2) ρ
  | _, _ => none
def liftN (f : List D → Option BR) (ss : List SV) : M SV := fun ρ => match cons ρ ss with
  | some ds => bres (f ds) ρ
  | none => none
section
variable {c : Fc} {W : WX} {X : Cx}
theorem opS_of {K : PySem.W.Frag} {r : R2} {f : D → D → Option BR} (h : OpB K r f) : OpS K r (lift2 f) := by
  intro c W σ ρ ts H s1 s2 v1 v2 Q e R q
  subst e
  unfold lift2 at q
  split at q
  · rename_i d1 d2 e1 e2
    have h1 := R.con (List.mem_cons_of_mem _ List.mem_cons_self) e1
    have h2 := R.con List.mem_cons_self e2
    cases e3 : f d1 d2 with
    | none => rw [e3] at q; exact q.elim
    | some b =>
      rw [e3] at q
      exact h _ H d1 d2 v1 v2 b Q h1 h2 e3 (fin_br (us := [(s2, v2), (s1, v1)]) R q)
  · exact q.elim
theorem OpB.or {K : PySem.W.Frag} {r r' : R2} {f : D → D → Option BR} (h : ∀ (A : Addr → Prop) (H : Hp) (d1 d2 : D) (v1 v2 : V) (b : BR) (Q : VK), RepR K A H d1 v1 → RepR K A H d2 v2 → f d1 d2 = some b → BRQ K A H b Q → r v1 v2 H Q ∨ r' v1 v2 H Q) : OpB K (fun x y H Q => r x y H Q ∨ r' x y H Q) f := h
def mUn (f : D → Option BR) (m : M SV) : M SV := m.bnd fun s => lift1 f s
theorem read1 {r : V → Hp → VK → Prop} {f : D → Option BR} (hs : UnB c.K r f) {m : M SV} {σ : L2.St} {H : Hp} {Q : VK} (h : tDE c W (mUn f m) σ H Q) : tUn r (tDE c W m) σ H Q := by
  obtain ⟨ρ, ts, R, q⟩ := h
  refine bindE R q fun s1 v1 ρ1 H1 R1 q1 => ?_
  unfold lift1 at q1
  cases e : con ρ1 s1 with
  | none => rw [e] at q1; exact q1.elim
  | some d =>
    rw [e] at q1
    simp only at q1
    cases e3 : f d with
    | none => rw [e3] at q1; exact q1.elim
    | some b =>
      rw [e3] at q1
      exact hs _ H1 d v1 b Q (R1.con List.mem_cons_self e) e3 (fin_br (us := [(s1, v1)]) R1 q1)
theorem pd_un {op : UnaryOp} {a : Expr} {m : M SV} {pos : Pos} {r : V → Hp → VK → Prop} {f : D → Option BR} (ho : UnR X (unaryOp op) r) (hs : UnB c.K r f) (ha : PE X a (tDE c W m)) : PE X (.UnaryOp op a pos) (tDE c W (mUn f m)) :=
  pe_imp (pe_un ho ha) fun σ H Q h => read1 hs h
end

/-! ### numbers -/
theorem repR_int {K A H} {i : Int} {v : V} (h : RepR K A H (.int i) v) : v = .int i := by simpa only [RepR, Rep] using h
theorem repR_bl {K A H} {i : Bool} {v : V} (h : RepR K A H (.bl i) v) : v = .bl i := by simpa only [RepR, Rep] using h
theorem repR_str {K A H} {i : Str} {v : V} (h : RepR K A H (.str i) v) : v = .str i := by simpa only [RepR, Rep] using h
theorem repR_non {K A H} {v : V} (h : RepR K A H .non v) : v = .non := by simpa only [RepR, Rep] using h
theorem repR_lst {K A H} {ds : List D} {v : V} (h : RepR K A H (.lst ds) v) : ∃ a vs, v = .ref a ∧ H a = some (.lst vs) ∧ RepL K A H ds vs := h
theorem repR_tup {K A H} {ds : List D} {v : V} (h : RepR K A H (.tup ds) v) : ∃ a vs, v = .ref a ∧ SqT K H a vs ∧ RepL K A H ds vs := by simpa only [RepR, Rep] using h
theorem repR_seq {K A H} {ds : List D} {v : V} (h : RepR K A H (.seq ds) v) : ∃ a vs, v = .ref a ∧ FrzL K H a vs ∧ RepL K A H ds vs := by simpa only [RepR, Rep] using h
theorem rep_int {K A H} (i : Int) : Rep K A H (.int i) (.int i) := by simp only [Rep]
theorem rep_bl {K A H} (i : Bool) : Rep K A H (.bl i) (.bl i) := by simp only [Rep]
theorem rep_str {K A H} (i : Str) : Rep K A H (.str i) (.str i) := by simp only [Rep]
theorem rep_non {K A H} : Rep K A H .non .non := by simp only [Rep]
theorem rep_tup {K A H} {a : Addr} {ds : List D} {vs : List V} (h : SqT K H a vs) (r : RepL K A H ds vs) : Rep K A H (.tup ds) (.ref a) := by simp only [Rep]; exact ⟨a, vs, rfl, h, r⟩
def iff2 (C : Int → Int → Bool) (g : Int → Int → Int) : D → D → Option BR
  | .int i, .int j => if C i j = true then some (.imm (.int (g i j))) else none
  | _, _ => none
theorem opB_I {K : PySem.W.Frag} {C : Int → Int → Bool} {P : Int → Int → Prop} {g : Int → Int → Int} (h : ∀ i j, C i j = true → P i j) : OpB K (rI P fun i j => .int (g i j)) (iff2 C g) := by
  intro A H d1 d2 v1 v2 b Q h1 h2 e q
  unfold iff2 at e
  split at e
  · split at e
    · rename_i i j hc
      cases e
      exact ⟨i, j, repR_int h1, repR_int h2, h i j hc, q _ (rep_int _)⟩
    · cases e
  · cases e
/-- a < b, so that the kernel counts nothing down -/
def nlt (a b : Nat) : Bool := Nat.ble (a + 1) b
theorem nlt_iff {a b : Nat} : nlt a b = true ↔ a < b := by unfold nlt; rw [Nat.ble_eq]; omega
def mulOk (i j : Int) : Bool := nlt i.natAbs (2 ^ 64) || nlt j.natAbs (2 ^ 64) || nlt (i.natAbs.log2 + j.natAbs.log2) 1000000
def divOk (i j : Int) : Bool := decide (0 < j) && (nlt j.natAbs 1073741824 || nlt j.natAbs.log2 9000)
def modOk (_ j : Int) : Bool := decide (0 < j)
def powOk (i j : Int) : Bool := decide (0 ≤ j) && nlt j.natAbs 1000001 && nlt i.natAbs (2 ^ 64)
def yes2 (_ _ : Int) : Bool := true
def fSub := iff2 yes2 fun i j => i - j
def fDiv := iff2 divOk fun i j => i / j
def fMod := iff2 modOk fun i j => i % j
def fPow := iff2 powOk fun i j => i ^ j.toNat
def repOk (k : Int) (n : Nat) : Bool := nlt k.natAbs (2 ^ 63) && nlt (n * k.toNat) (sizeLine + 1)
def repD (ds : List D) (k : Int) : List D := (List.replicate k.toNat ds).flatten
def fMul : D → D → Option BR
  | .int i, .int j => if mulOk i j = true then some (.imm (.int (i * j))) else none
  | .lst ds, .int k => if repOk k ds.length = true then some (.newL (repD ds k)) else none
  | _, _ => none
def fAdd : D → D → Option BR
  | .int i, .int j => some (.imm (.int (i + j)))
  | .str i, .str j => if i.length + j.length ≤ sizeLine then some (.imm (.str (i ++ j))) else none
  | .lst a, .lst b => if a.length + b.length ≤ sizeLine then some (.newL (a ++ b)) else none
  | .tup a, .tup b => if a.length + b.length ≤ sizeLine then some (.anyT (a ++ b)) else none
  | _, _ => none
section
variable {K : PySem.W.Frag} {X : Cx} {A : Addr → Prop} {H : Hp}
theorem RepL.flat : ∀ {dss : List (List D)} {vss : List (List V)}, Paired (RepL K A H) dss vss → RepL K A H dss.flatten vss.flatten
  | _, _, .nil => RepL.nil
  | _, _, .cons r t => RepL.app r (RepL.flat t)
theorem RepL.rep {ds : List D} {vs : List V} (h : RepL K A H ds vs) : ∀ n, RepL K A H (List.replicate n ds).flatten (List.replicate n vs).flatten
  | 0 => RepL.nil
  | n + 1 => by
    simp only [List.replicate_succ, List.flatten_cons]
    exact RepL.app h (RepL.rep h n)
theorem opB_sub : OpB K (rI0 fun i j => .int (i - j)) fSub := by
  intro A H d1 d2 v1 v2 b Q h1 h2 e q
  obtain ⟨i, j, a, b, _, z⟩ := opB_I (K := K) (P := fun _ _ => True) (C := yes2) (g := fun i j => i - j) (fun _ _ _ => trivial) A H d1 d2 v1 v2 b Q h1 h2 e q
  exact ⟨i, j, a, b, z⟩
theorem opR_div : OpR X (binaryOp .FloorDiv) (fun x y H Q => rI CDiv (fun i j => .int (i / j)) x y H Q ∨ rI CDivW (fun i j => .int (i / j)) x y H Q) := OpR.or op_fdiv op_fdivW
theorem opB_div : OpB K (fun x y H Q => rI CDiv (fun i j => .int (i / j)) x y H Q ∨ rI CDivW (fun i j => .int (i / j)) x y H Q) fDiv := by
  intro A H d1 d2 v1 v2 b Q h1 h2 e q
  obtain ⟨i, j, a, b, z, q'⟩ := opB_I (K := K) (P := fun i j => divOk i j = true) (C := divOk) (g := fun i j => i / j) (fun _ _ h => h) A H d1 d2 v1 v2 b Q h1 h2 e q
  simp only [divOk, nlt_iff, Bool.and_eq_true, Bool.or_eq_true, decide_eq_true_eq] at z
  rcases z with ⟨z1, z | z⟩
  · exact .inl ⟨i, j, a, b, ⟨z1, by omega⟩, q'⟩
  · exact .inr ⟨i, j, a, b, ⟨z1, z⟩, q'⟩
theorem opB_mod : OpB K (rI (fun _ j => 0 < j) fun i j => .int (i % j)) fMod := opB_I fun i j h => by simpa [modOk] using h
theorem opB_pow : OpB K (rI CPow fun i j => .int (i ^ j.toNat)) fPow := opB_I fun i j h => by
  simp only [powOk, nlt_iff, Bool.and_eq_true, decide_eq_true_eq] at h
  exact ⟨h.1.1, by have := h.1.1; have := h.1.2; omega, h.2⟩
def rMul' : R2 := fun x y H Q => (rI CMul (fun i j => .int (i * j)) x y H Q ∨ rI CMulW (fun i j => .int (i * j)) x y H Q) ∨ rRep x y H Q
theorem opR_mul : OpR X (binaryOp .Mult) rMul' := OpR.or (OpR.or op_mul op_mulW) op_rep
theorem opB_mul : OpB K rMul' fMul := by
  intro A H d1 d2 v1 v2 b Q h1 h2 e q
  unfold fMul at e
  split at e
  · split at e
    · rename_i i j hc
      cases e
      simp only [mulOk, nlt_iff, Bool.or_eq_true] at hc
      rcases hc with (z | z) | z
      · exact .inl (.inl ⟨i, j, repR_int h1, repR_int h2, .inl ⟨by omega, by omega⟩, q _ (rep_int _)⟩)
      · exact .inl (.inl ⟨i, j, repR_int h1, repR_int h2, .inr ⟨by omega, by omega⟩, q _ (rep_int _)⟩)
      · exact .inl (.inr ⟨i, j, repR_int h1, repR_int h2, z, q _ (rep_int _)⟩)
    · cases e
  · split at e
    · rename_i ds k hc
      cases e
      obtain ⟨a, vs, e1, e2, r⟩ := repR_lst h1
      simp only [repOk, nlt_iff, Bool.and_eq_true] at hc
      exact .inr ⟨a, k, vs, e1, repR_int h2, e2, by omega, by omega, by rw [r.length]; omega, fun p hp => q _ p (r.rep _) hp⟩
    · cases e
  · cases e
def rAdd' (K : PySem.W.Frag) : R2 := fun x y H Q => ((rI0 (fun i j => .int (i + j)) x y H Q ∨ (∃ i j, x = .str i ∧ y = .str j ∧ i.length + j.length ≤ sizeLine ∧ Q (.str (i ++ j)) H)) ∨ rCat x y H Q) ∨ rCatA K x y H Q
theorem opR_add : OpR X (binaryOp .Add) (rAdd' X.K) := OpR.or (OpR.or (OpR.or op_add op_add_str) op_cat) op_catA
theorem RepL.nil_iff {ds : List D} {vs : List V} (h : RepL K A H ds vs) : vs = [] ↔ ds = [] := by
  have z := h.length
  constructor
  · intro e; subst e
    exact List.length_eq_zero_iff.mp z.symm
  · intro e; subst e
    exact List.length_eq_zero_iff.mp z
theorem opB_add : OpB K (rAdd' K) fAdd := by
  intro A H d1 d2 v1 v2 b Q h1 h2 e q
  unfold fAdd at e
  split at e
  · rename_i i j
    cases e
    exact .inl (.inl (.inl ⟨i, j, repR_int h1, repR_int h2, q _ (rep_int _)⟩))
  · split at e
    · rename_i i j hc
      cases e
      exact .inl (.inl (.inr ⟨i, j, repR_str h1, repR_str h2, hc, q _ (rep_str _)⟩))
    · cases e
  · split at e
    · rename_i a b hc
      cases e
      obtain ⟨p1, vs1, e1, e2, r1⟩ := repR_lst h1
      obtain ⟨p2, vs2, e3, e4, r2⟩ := repR_lst h2
      exact .inl (.inr ⟨p1, p2, vs1, vs2, e1, e3, e2, e4, by rw [r1.length, r2.length]; exact hc, fun p hp => q _ p (RepL.app r1 r2) hp⟩)
    · cases e
  · split at e
    · rename_i a b hc
      cases e
      obtain ⟨p1, vs1, e1, e2, r1⟩ := repR_tup h1
      obtain ⟨p2, vs2, e3, e4, r2⟩ := repR_tup h2
      refine .inr ⟨p1, p2, vs1, vs2, e1, e3, e2, e4, by rw [r1.length, r2.length]; exact hc, fun z => ?_, fun _ z => ?_, fun _ _ p hp => q.2 _ p (RepL.app r1 r2) hp⟩
      · have := r1.nil_iff.mp z
        subst this
        exact q.1 _ (rep_tup e4 r2)
      · have := r2.nil_iff.mp z
        subst this
        rw [List.append_nil] at q
        exact q.1 _ (rep_tup e2 r1)
    · cases e
  · cases e
def fNeg : D → Option BR
  | .int i => some (.imm (.int (-i)))
  | _ => none
theorem unB_neg : UnB K (rU fun i => .int (-i)) fNeg := by
  intro A H d1 v1 b Q h1 e q
  unfold fNeg at e
  split at e
  · cases e
    exact ⟨_, repR_int h1, q _ (rep_int _)⟩
  · cases e

/-! ### comparisons -/
def lexD : List D → List D → Option (List Int × List Int)
  | .int i :: a, .int j :: b => (lexD a b).map fun p => (i :: p.1, j :: p.2)
  | [], [] => some ([], [])
  | _, _ => none
def intsOf : List D → Option (List Int)
  | [] => some []
  | .int i :: ds => (intsOf ds).map (i :: ·)
  | _ => none
theorem intsOf_map (ns : List Int) : intsOf (ns.map D.int) = some ns := by
  induction ns with
  | nil => rfl
  | cons n ns ih => simp [intsOf, ih]
theorem intsOf_vs : ∀ {ds : List D} {ns : List Int} {vs : List V}, intsOf ds = some ns → RepL K A H ds vs → vs = ns.map V.int
  | [], ns, vs, h, r => by simp only [intsOf, Option.some.injEq] at h; subst h; simp only [RepL] at r; subst r; rfl
  | .int i :: ds, ns, vs, h, r => by
    simp only [intsOf, Option.map_eq_some_iff] at h
    obtain ⟨ms, e, rfl⟩ := h
    simp only [RepL] at r
    obtain ⟨v, vs', rfl, r, rs⟩ := r
    simp only [Rep] at r
    rw [r, intsOf_vs e rs]; rfl
  | .non :: _, _, _, h, _ => by simp [intsOf] at h
  | .bl _ :: _, _, _, h, _ => by simp [intsOf] at h
  | .str _ :: _, _, _, h, _ => by simp [intsOf] at h
  | .tup _ :: _, _, _, h, _ => by simp [intsOf] at h
  | .lst _ :: _, _, _, h, _ => by simp [intsOf] at h
  | .seq _ :: _, _, _, h, _ => by simp [intsOf] at h
  | .obj _ _ _ :: _, _, _, h, _ => by simp [intsOf] at h
theorem intsOf_rep : ∀ {ns : List Int}, RepL K A H (ns.map D.int) (ns.map V.int)
  | [] => RepL.nil
  | n :: ns => RepL.cons (rep_int n) intsOf_rep
def fCmpI (g : Int → Int → Bool) : D → D → Option BR
  | .int i, .int j => some (.imm (.bl (g i j)))
  | _, _ => none
theorem opB_cmpI {g : Int → Int → Bool} : OpB K (rI0 fun i j => .bl (g i j)) (fCmpI g) := by
  intro A H d1 d2 v1 v2 b Q h1 h2 e q
  unfold fCmpI at e
  split at e
  · cases e
    exact ⟨_, _, repR_int h1, repR_int h2, q _ (rep_bl _)⟩
  · cases e
def fLt : D → D → Option BR
  | .int i, .int j => some (.imm (.bl (decide (i < j))))
  | .str i, .str j => some (.imm (.bl (decide (i.cps.toList < j.cps.toList))))
  | .tup a, .tup b => match intsOf a, intsOf b with
    | some ns, some ms => some (.imm (.bl (HT.lexLt ns ms)))
    | _, _ => none
  | _, _ => none
def rLt' (K : PySem.W.Frag) : R2 := fun x y H Q => (rI0 (fun i j => .bl (decide (i < j))) x y H Q ∨ (∃ i j, x = .str i ∧ y = .str j ∧ Q (.bl (decide (i.cps.toList < j.cps.toList))) H)) ∨ rLtT K x y H Q
theorem opR_lt (hu : X.A.units < cLine) : OpR X (compareOp .Lt) (rLt' X.K) := OpR.or (OpR.or op_lt op_lt_str) (op_ltT hu)
theorem opB_lt : OpB K (rLt' K) fLt := by
  intro A H d1 d2 v1 v2 b Q h1 h2 e q
  unfold fLt at e
  split at e
  · cases e
    exact .inl (.inl ⟨_, _, repR_int h1, repR_int h2, q _ (rep_bl _)⟩)
  · cases e
    exact .inl (.inr ⟨_, _, repR_str h1, repR_str h2, q _ (rep_bl _)⟩)
  · split at e
    · rename_i a b ns ms e1 e2
      cases e
      obtain ⟨p1, vs1, e3, e4, r1⟩ := repR_tup h1
      obtain ⟨p2, vs2, e5, e6, r2⟩ := repR_tup h2
      rw [intsOf_vs e1 r1] at e4
      rw [intsOf_vs e2 r2] at e6
      exact .inr ⟨p1, p2, ns, ms, e3, e5, e4, e6, q _ (rep_bl _)⟩
    · cases e
  · cases e
abbrev fLe := fCmpI fun i j => decide (i ≤ j)
abbrev fGt := fCmpI fun i j => decide (j < i)
abbrev fGe := fCmpI fun i j => decide (j ≤ i)

/-! equality of data -/
mutual
def py : D → PyData
  | .non => .none
  | .bl b => .bool b
  | .int i => .int i
  | .str s => .str s
  | .tup ds => .tuple (pys ds)
  | .lst ds => .list (pys ds)
  | .seq ds => .list (pys ds)
  | .obj _ _ _ => .none
def pys : List D → List PyData
  | [] => []
  | d :: ds => py d :: pys ds
end
mutual
def plain : D → Bool
  | .obj _ _ _ => false
  | .tup ds => plains ds
  | .lst ds => plains ds
  | .seq ds => plains ds
  | _ => true
def plains : List D → Bool
  | [] => true
  | d :: ds => plain d && plains ds
end
mutual
theorem dp_of : ∀ {d : D} {v : V}, plain d = true → Rep K A H d v → Dp K H v (py d)
  | .non, v, _, h => by simp only [Rep] at h; subst h; exact .non
  | .bl b, v, _, h => by simp only [Rep] at h; subst h; exact .bl b
  | .int i, v, _, h => by simp only [Rep] at h; subst h; exact .int i
  | .str s, v, _, h => by simp only [Rep] at h; subst h; exact .str s
  | .tup ds, v, p, h => by
    simp only [Rep] at h
    obtain ⟨a, vs, rfl, q, r⟩ := h
    simp only [py]
    exact .tup q (dps_of (by simpa only [plain] using p) r)
  | .lst ds, v, p, h => by
    simp only [Rep] at h
    obtain ⟨a, vs, rfl, q, r⟩ := h
    simp only [py]
    exact .lst (SqL.of q.1) (dps_of (by simpa only [plain] using p) r)
  | .seq ds, v, p, h => by
    simp only [Rep] at h
    obtain ⟨a, vs, rfl, q, r⟩ := h
    simp only [py]
    exact .lst q.sq (dps_of (by simpa only [plain] using p) r)
  | .obj _ _ _, v, p, h => by simp [plain] at p
theorem dps_of : ∀ {ds : List D} {vs : List V}, plains ds = true → RepL K A H ds vs → DpAll K H vs (pys ds)
  | [], vs, _, h => by simp only [RepL] at h; subst h; exact .nil
  | d :: ds, vs, p, h => by
    simp only [RepL] at h
    obtain ⟨v, vs', rfl, r, rs⟩ := h
    simp only [plains, Bool.and_eq_true] at p
    simp only [pys]
    exact .cons (dp_of p.1 r) (dps_of p.2 rs)
end
theorem dp_ofR {d : D} {v : V} (p : plain d = true) (h : RepR K A H d v) : Dp K H v (py d) := by
  cases d with
  | lst ds =>
    obtain ⟨a, vs, rfl, q, r⟩ := h
    simp only [py]
    exact .lst (SqL.of q) (dps_of (by simpa only [plain] using p) r)
  | _ => exact dp_of (A := A) p h
def eqD : D → D → Option Bool
  | .int i, .int j => some (decide (i = j))
  | .str i, .str j => some (decide (i = j))
  | .bl i, .bl j => some (decide (i = j))
  | d, e => if (plain d && plain e && SeqAt.shaped (py d) && SeqAt.shaped (py e)) = true then some (PyData.eqv (py d) (py e)) else none
def fEq (d e : D) : Option BR := (eqD d e).map fun b => .imm (.bl b)
def fNe (d e : D) : Option BR := (eqD d e).map fun b => .imm (.bl (!b))
theorem eqD_ok {d e : D} {b : Bool} (h : eqD d e = some b) {v u : V} (h1 : RepR K A H d v) (h2 : RepR K A H e u) : (scal v u = true ∧ b = decide (v = u)) ∨ (plain d = true ∧ plain e = true ∧ SeqAt.shaped (py d) = true ∧ SeqAt.shaped (py e) = true ∧ PyData.eqv (py d) (py e) = b) := by
  unfold eqD at h
  split at h
  · cases h
    rw [repR_int h1, repR_int h2]
    exact .inl ⟨rfl, by simp⟩
  · cases h
    rw [repR_str h1, repR_str h2]
    exact .inl ⟨rfl, by simp⟩
  · cases h
    rw [repR_bl h1, repR_bl h2]
    exact .inl ⟨rfl, by simp⟩
  · split at h
    · rename_i hc
      simp only [Bool.and_eq_true] at hc
      cases h
      exact .inr ⟨hc.1.1.1, hc.1.1.2, hc.1.2, hc.2, rfl⟩
    · cases h
theorem opB_eq : OpB K (fun x y H Q => rEqD K x y H Q ∨ rEq x y H Q) fEq := by
  intro A H d1 d2 v1 v2 b Q h1 h2 e q
  unfold fEq at e
  rw [Option.map_eq_some_iff] at e
  obtain ⟨bb, e, rfl⟩ := e
  rcases eqD_ok e h1 h2 with ⟨s, e⟩ | ⟨p1, p2, s1, s2, e⟩
  · exact .inr ⟨s, by rw [← e]; exact q _ (rep_bl _)⟩
  · exact .inl ⟨_, _, dp_ofR p1 h1, dp_ofR p2 h2, s1, s2, by rw [e]; exact q _ (rep_bl _)⟩
theorem opB_ne : OpB K (fun x y H Q => rNeD K x y H Q ∨ rNe x y H Q) fNe := by
  intro A H d1 d2 v1 v2 b Q h1 h2 e q
  unfold fNe at e
  rw [Option.map_eq_some_iff] at e
  obtain ⟨bb, e, rfl⟩ := e
  rcases eqD_ok e h1 h2 with ⟨s, e⟩ | ⟨p1, p2, s1, s2, e⟩
  · exact .inr ⟨s, by rw [← e]; exact q _ (rep_bl _)⟩
  · exact .inl ⟨_, _, dp_ofR p1 h1, dp_ofR p2 h2, s1, s2, by rw [e]; exact q _ (rep_bl _)⟩
theorem opR_eq (hu : X.A.units + 64 < cLine) : OpR X (compareOp .Eq) (fun x y H Q => rEqD X.K x y H Q ∨ rEq x y H Q) := OpR.or (op_eqD hu) op_eq
theorem opR_ne (hu : X.A.units + 64 < cLine) : OpR X (compareOp .NotEq) (fun x y H Q => rNeD X.K x y H Q ∨ rNe x y H Q) := OpR.or (op_neD hu) op_ne
def isNon : D → Bool
  | .non => true
  | _ => false
theorem isNon_v {d : D} {v : V} (h : RepR K A H d v) : decide (v = .non) = isNon d := by
  cases d with
  | non => rw [repR_non h]; rfl
  | bl b => rw [repR_bl h]; rfl
  | int b => rw [repR_int h]; rfl
  | str b => rw [repR_str h]; rfl
  | tup ds => obtain ⟨a, vs, rfl, _⟩ := repR_tup h; rfl
  | lst ds => obtain ⟨a, vs, rfl, _⟩ := repR_lst h; rfl
  | seq ds => obtain ⟨a, vs, rfl, _⟩ := repR_seq h; rfl
  | obj C fs ds =>
    simp only [RepR, Rep] at h
    obtain ⟨a, dx, vs, rfl, _⟩ := h
    rfl
def fIs (neg : Bool) : D → D → Option BR
  | d, .non => some (.imm (.bl (if neg then !isNon d else isNon d)))
  | _, _ => none
theorem opB_is : OpB K (fun x y H Q => y = .non ∧ Q (.bl (decide (x = .non))) H) (fIs false) := by
  intro A H d1 d2 v1 v2 b Q h1 h2 e q
  unfold fIs at e
  split at e
  · cases e
    exact ⟨repR_non h2, by rw [isNon_v h1]; exact q _ (rep_bl _)⟩
  · cases e
theorem opB_isnot : OpB K (fun x y H Q => y = .non ∧ Q (.bl (!decide (x = .non))) H) (fIs true) := by
  intro A H d1 d2 v1 v2 b Q h1 h2 e q
  unfold fIs at e
  split at e
  · cases e
    exact ⟨repR_non h2, by rw [isNon_v h1]; exact q _ (rep_bl _)⟩
  · cases e
/-! in -/
def flatD : D → Bool
  | .non => true
  | .bl _ => true
  | .int _ => true
  | .str _ => true
  | _ => false
def eqF : D → D → Bool
  | .non, .non => true
  | .bl a, .bl b => a == b
  | .bl a, .int b => (if a then 1 else 0) == b
  | .int a, .bl b => a == (if b then 1 else 0)
  | .int a, .int b => a == b
  | .str a, .str b => a == b
  | _, _ => false
theorem flat_v {d : D} {v : V} (f : flatD d = true) (h : RepR K A H d v) : flatV v = true ∧ ∀ e u, flatD e = true → RepR K A H e u → eqV u v = eqF e d := by
  cases d with
  | non => rw [repR_non h]; exact ⟨rfl, fun e u f' h' => by cases e with
    | non => rw [repR_non h']; rfl
    | bl b => rw [repR_bl h']; rfl
    | int b => rw [repR_int h']; rfl
    | str b => rw [repR_str h']; rfl
    | _ => simp [flatD] at f'⟩
  | bl b => rw [repR_bl h]; exact ⟨rfl, fun e u f' h' => by cases e with
    | non => rw [repR_non h']; rfl
    | bl b => rw [repR_bl h']; rfl
    | int b => rw [repR_int h']; rfl
    | str b => rw [repR_str h']; rfl
    | _ => simp [flatD] at f'⟩
  | int b => rw [repR_int h]; exact ⟨rfl, fun e u f' h' => by cases e with
    | non => rw [repR_non h']; rfl
    | bl b => rw [repR_bl h']; rfl
    | int b => rw [repR_int h']; rfl
    | str b => rw [repR_str h']; rfl
    | _ => simp [flatD] at f'⟩
  | str b => rw [repR_str h]; exact ⟨rfl, fun e u f' h' => by cases e with
    | non => rw [repR_non h']; rfl
    | bl b => rw [repR_bl h']; rfl
    | int b => rw [repR_int h']; rfl
    | str b => rw [repR_str h']; rfl
    | _ => simp [flatD] at f'⟩
  | _ => simp [flatD] at f
theorem inV_of {d : D} {v : V} (f : flatD d = true) (h : RepR K A H d v) : ∀ {ds : List D} {vs : List V}, ds.all flatD = true → RepL K A H ds vs → vs.all flatV = true ∧ inV v vs = ds.any fun e => eqF e d
  | [], vs, _, r => by simp only [RepL] at r; subst r; exact ⟨rfl, rfl⟩
  | e :: ds, vs, fs, r => by
    simp only [RepL] at r
    obtain ⟨u, vs', rfl, r, rs⟩ := r
    rw [List.all_cons, Bool.and_eq_true] at fs
    obtain ⟨i1, i2⟩ := inV_of f h fs.2 rs
    have z := (flat_v f h).2 e u fs.1 r.root
    have z2 := (flat_v fs.1 r.root).1
    refine ⟨by rw [List.all_cons, z2, i1]; rfl, ?_⟩
    unfold inV at i2 ⊢
    rw [List.any_cons, List.any_cons, z, i2]
def inD (d : D) : D → Option Bool
  | .lst ds => if flatD d = true ∧ ds.all flatD = true then some (ds.any fun e => eqF e d) else none
  | .tup ds => if flatD d = true ∧ ds.all flatD = true then some (ds.any fun e => eqF e d) else none
  | .seq ds => if flatD d = true ∧ ds.all flatD = true then some (ds.any fun e => eqF e d) else none
  | _ => none
def fIn (neg : Bool) (d e : D) : Option BR := (inD d e).map fun b => .imm (.bl (if neg then !b else b))
theorem opB_in {neg : Bool} : OpB K (rIn K neg) (fIn neg) := by
  intro A H d1 d2 v1 v2 b Q h1 h2 e q
  unfold fIn at e
  rw [Option.map_eq_some_iff] at e
  obtain ⟨bb, e, rfl⟩ := e
  unfold inD at e
  split at e
  · split at e
    · rename_i ds hc
      cases e
      obtain ⟨p, vs, e1, e2, r⟩ := repR_lst h2
      obtain ⟨i1, i2⟩ := inV_of hc.1 h1 hc.2 r
      exact ⟨p, vs, e1, .inl (SqL.of e2), (flat_v hc.1 h1).1, i1, by rw [i2]; exact q _ (rep_bl _)⟩
    · cases e
  · split at e
    · rename_i ds hc
      cases e
      obtain ⟨p, vs, e1, e2, r⟩ := repR_tup h2
      obtain ⟨i1, i2⟩ := inV_of hc.1 h1 hc.2 r
      exact ⟨p, vs, e1, .inr e2, (flat_v hc.1 h1).1, i1, by rw [i2]; exact q _ (rep_bl _)⟩
    · cases e
  · split at e
    · rename_i ds hc
      cases e
      obtain ⟨p, vs, e1, e2, r⟩ := repR_seq h2
      obtain ⟨i1, i2⟩ := inV_of hc.1 h1 hc.2 r
      exact ⟨p, vs, e1, .inl e2.sq, (flat_v hc.1 h1).1, i1, by rw [i2]; exact q _ (rep_bl _)⟩
    · cases e
  · cases e
end
end DL

set_option Elab.async false
set_option linter.all false
set_option maxRecDepth 100000
/-! The data layer: calls. -/
namespace DL
open PySem PySem.Spec PyProof.Rows L2

/-! ### argument lists -/
def mNil : M (List SV) := ret []
def mCons (m : M SV) (ms : M (List SV)) : M (List SV) := m.bnd fun s => ms.bnd fun ss => ret (s :: ss)
section
variable {c : Fc} {W : WX} {X : Cx} {σ : L2.St} {ρ : List SV} {ts : Ts} {H H' : Hp} {sv : SV} {d : D} {ds : List D} {v : V} {vs : List V} {p : Addr} {i : Nat}
theorem pd_nil : PA X [] (tDA c W mNil) := pa_imp pa_nil fun σ H Q ⟨ρ, ts, r, q⟩ => q [] H rfl r
theorem pd_cons {e : Expr} {es : List Expr} {m : M SV} {ms : M (List SV)} (ha : PE X e (tDE c W m)) (hr : PA X es (tDA c W ms)) (hs : starEach (e :: es) X.env = (false, eval e X.env) :: starEach es X.env := by rfl) : PA X (e :: es) (tDA c W (mCons m ms)) := by
  refine pa_imp (pa_cons ha hr hs) fun σ H Q ⟨ρ, ts, r, q⟩ => ?_
  refine ⟨ρ, ts, r, ?_⟩
  unfold mCons at q
  cases e1 : m ρ with
  | none => rw [bnd_none e1] at q; exact q.elim
  | some x =>
    cases x with
    | er x ρ' => rw [bnd_er e1] at q; exact q
    | ok s ρ1 =>
      rw [bnd_some e1] at q
      intro v H1 r1
      refine ⟨ρ1, (s, v) :: ts, r1, ?_⟩
      cases e2 : ms ρ1 with
      | none => rw [bnd_none e2] at q; exact q.elim
      | some x =>
        cases x with
        | er x ρ' => rw [bnd_er e2] at q; exact fun cls od H' r' z => q cls od H' r'.pop (z.less avr_sub)
        | ok ss ρ2 =>
          rw [bnd_some e2] at q
          intro vs H2 hl r2
          exact q (v :: vs) H2 (by simp [hl]) (r2.perm List.perm_middle)
/-- what an argument list's reading hands on -/
theorem bindA {α : Type} {m : M (List SV)} {f : List SV → M SV} {Q : VK} (r : R c σ ρ ts H) (h : PostE c W σ ts Q ((m.bnd f) ρ)) {Q' : List V → Hp → Prop} (k : ∀ svs vs ρ' H', svs.length = vs.length → R c σ ρ' (svs.zip vs ++ ts) H' → PostE c W σ ts Q (f svs ρ') → Q' vs H') : tDA c W m σ H Q' := by
  refine ⟨ρ, ts, r, ?_⟩
  cases e : m ρ with
  | none => rw [bnd_none e] at h; exact h
  | some x =>
    cases x with
    | er x ρ' => rw [bnd_er e] at h; exact h
    | ok svs ρ' => rw [bnd_some e] at h; exact fun vs H' hl r' => k svs vs ρ' H' hl r' h
/-! ### built-ins by name -/
def mCallB (f : List D → Option BR) (ma : M (List SV)) : M SV := ma.bnd fun svs => liftN f svs
theorem readB {r : List V → Hp → VK → Prop} {f : List D → Option BR} (hs : CallB c.K r f) {ma : M (List SV)} {Q : VK} (h : tDE c W (mCallB f ma) σ H Q) : tCB r (tDA c W ma) σ H Q := by
  obtain ⟨ρ, ts, R1, q⟩ := h
  refine bindA (α := Unit) R1 q fun svs vs ρ1 H1 hl R2 q1 => ?_
  unfold liftN at q1
  cases e : cons ρ1 svs with
  | none => rw [e] at q1; exact q1.elim
  | some ds =>
    rw [e] at q1
    simp only at q1
    cases e3 : f ds with
    | none => rw [e3] at q1; exact q1.elim
    | some b =>
      rw [e3] at q1
      exact hs _ H1 ds vs b Q (r_cons R2 (fun t ht => List.mem_append_left _ ht) hl e) e3 (fin_br R2 q1)
variable {e : Expr} {es : List Expr} {ma : M (List SV)} {x : Str} {p' pos : Pos} {id : String} {r : List V → Hp → VK → Prop} {f : List D → Option BR}
theorem pd_bi (hc : CallR X (.builtin id) r) (hs : CallB c.K r f) (hg : Gl X x) (hm : X.mg x = none) (hv : bootBuiltins x = some (.builtin id)) (ha : PA X (e :: es) (tDA c W ma))
    (h : PE X (.Call (.Name x p') (e :: es) [] pos) (tCB r (tDA c W ma))) : PE X (.Call (.Name x p') (e :: es) [] pos) (tDE c W (mCallB f ma)) :=
  pe_imp h fun σ H Q z => readB hs z

/-! ### a row of places handed to a callee -/
theorem own_append {P P' : Pl} : Own (P ++ P') = Own P ++ Own P' := List.filterMap_append
def c0 (c : Fc) (Pa rest : Pl) (H : Hp) : Fc := { K := c.K, T := fun a => c.T a ∨ a ∈ Own rest, H0 := H, W := fun a => a ∈ Own Pa, cv := fun _ => false, pin := fun _ => none }
def NoLocP (P : Pl) : Prop := ∀ i o, (SV.loc i, o) ∉ P
theorem G.enter {Pa rest : Pl} (g : G c σ (Pa ++ rest) H) (n : NoLocP Pa) : G (c0 c Pa rest H) [] Pa H := by
  have ea : ∀ a, Av (c0 c Pa rest H) Pa a → Av c (Pa ++ rest) a := fun a h => by
    unfold Av
    rw [own_append, List.mem_append]
    rcases h with (h | h) | h
    · exact .inl h
    · exact .inr (.inr h)
    · exact .inr (.inl h)
  have nd := g.nd
  rw [own_append, List.nodup_append] at nd
  refine ⟨fun x hx => ?_, nd.1, fun a o h _ => h, fun a h => .inl h, fun a h => ⟨g.hold (ea a (.inl h)), fun w => ?_⟩, fun i v e => by cases e⟩
  · have q := g.rs x (List.mem_append_left _ hx)
    obtain ⟨sv, ov⟩ := x
    cases sv with
    | un => trivial
    | fz d => obtain ⟨v, e, q⟩ := q; exact ⟨v, e, q.less fun a y => .inl (ea a y)⟩
    | own d =>
      obtain ⟨p, e, q⟩ := q
      refine ⟨p, e, ?_⟩
      cases d <;> simp only [RepO] at q ⊢
      obtain ⟨vs, e, q⟩ := q
      exact ⟨vs, e, q.less fun a y => .inl (ea a y)⟩
    | loc i => exact absurd hx (n i ov)
  · rcases h with h | h
    · obtain ⟨h1, h2⟩ := g.tt a h
      rcases g.new a (by rw [own_append]; exact List.mem_append_left _ w) with z | z
      · exact h2 z
      · exact h1 z
    · exact nd.2.2 a w a h rfl
theorem G.leave {Pa Po rest : Pl} (g : G c σ (Pa ++ rest) H) (g' : G (c0 c Pa rest H) [] Po H') : G c σ (Po ++ rest) H' := by
  have nd := g.nd
  rw [own_append, List.nodup_append] at nd
  have hw : ∀ a o, H a = some o → a ∉ Own Pa → H' a = some o := fun a o h w => g'.fr a o h w
  have ea : ∀ a, Av c (Po ++ rest) a → Av (c0 c Pa rest H) Po a := fun a h => by
    unfold Av at h
    rw [own_append, List.mem_append] at h
    rcases h with h | h | h
    · exact .inl (.inl h)
    · exact .inr h
    · exact .inl (.inr h)
  have up : ∀ a, Av c (Po ++ rest) a → Av c (Pa ++ rest) a ∨ H a = none := fun a h => by
    unfold Av
    rw [own_append, List.mem_append]
    unfold Av at h
    rw [own_append, List.mem_append] at h
    rcases h with h | h | h
    · exact .inl (.inl h)
    · rcases g'.new a h with z | z
      · exact .inl (.inr (.inl z))
      · exact .inr z
    · exact .inl (.inr (.inr h))
  have inPa : ∀ a, a ∈ Own Pa → Av c (Pa ++ rest) a := fun a h => .inr (by rw [own_append]; exact List.mem_append_left _ h)
  have isL : ∀ a, a ∈ Own Pa → ∃ xs, H a = some (.lst xs) := fun a h => by
    obtain ⟨⟨sv, ov⟩, hx, e⟩ := List.mem_filterMap.mp h
    have r := g.rs _ (List.mem_append_left _ hx)
    cases sv with
    | own d =>
      obtain ⟨p, e2, r⟩ := r
      simp only at e2
      subst e2
      simp only [ownA, Option.some.injEq] at e
      subst e
      cases d <;> simp only [RepO] at r
      obtain ⟨vs, e, _⟩ := r
      exact ⟨vs, e⟩
    | _ => simp [ownA] at e
  have st : ∀ a o, H a = some o → (∀ xs, o ≠ .lst xs) → H' a = some o := fun a o h z => hw a o h fun w => by
    obtain ⟨xs, e⟩ := isL a w
    rw [h] at e
    exact z xs (Option.some.inj e)
  have na : ∀ a o, H a = some o → ¬ Av c (Pa ++ rest) a → ¬ Av c (Po ++ rest) a := fun a o h n y => (up a y).elim n fun z => by rw [h] at z; cases z
  have mR : ∀ {d : D} {v : V}, Rep c.K (Av c (Pa ++ rest)) H d v → Rep c.K (Av c (Po ++ rest)) H' d v := fun q =>
    Rep.mono (fun a vs q => sqT_off q st) (fun a vs q => ⟨hw _ _ q.1 fun w => q.2 (inPa a w), na a _ q.1 q.2⟩) (fun a vs q => frzL_off q st) (fun a C dx fs q n => ⟨hw _ _ q fun w => n (inPa a w), na a _ q n⟩) q
  have mL : ∀ {ds : List D} {vs : List V}, RepL c.K (Av c (Pa ++ rest)) H ds vs → RepL c.K (Av c (Po ++ rest)) H' ds vs := fun q =>
    RepL.mono (fun a vs q => sqT_off q st) (fun a vs q => ⟨hw _ _ q.1 fun w => q.2 (inPa a w), na a _ q.1 q.2⟩) (fun a vs q => frzL_off q st) (fun a C dx fs q n => ⟨hw _ _ q fun w => n (inPa a w), na a _ q n⟩) q
  refine ⟨fun x hx => ?_, ?_, fun a o h w => hw a o (g.fr a o h w) fun z => ?_, fun a h => ?_, g.tt, g.pn⟩
  · rcases List.mem_append.mp hx with hx | hx
    · have q := g'.rs x hx
      obtain ⟨sv, ov⟩ := x
      cases sv with
      | un => trivial
      | fz d => obtain ⟨v, e, q⟩ := q; exact ⟨v, e, q.less fun a y => .inl (ea a y)⟩
      | own d =>
        obtain ⟨p, e, q⟩ := q
        refine ⟨p, e, ?_⟩
        cases d <;> simp only [RepO] at q ⊢
        obtain ⟨vs, e, q⟩ := q
        exact ⟨vs, e, q.less fun a y => .inl (ea a y)⟩
      | loc i =>
        obtain ⟨_, v, _, e⟩ := q
        simp at e
    · have q := g.rs x (List.mem_append_right _ hx)
      obtain ⟨sv, ov⟩ := x
      cases sv with
      | un => trivial
      | fz d => obtain ⟨v, e, q⟩ := q; exact ⟨v, e, mR q⟩
      | own d =>
        obtain ⟨p, e, q⟩ := q
        refine ⟨p, e, ?_⟩
        have hp : p ∈ Own rest := List.mem_filterMap.mpr ⟨_, hx, by simp only at e; subst e; rfl⟩
        cases d <;> simp only [RepO] at q ⊢
        obtain ⟨vs, e, q⟩ := q
        exact ⟨vs, hw _ _ e fun w => nd.2.2 p w p hp rfl, mL q⟩
      | loc i => exact q
  · rw [own_append, List.nodup_append]
    refine ⟨g'.nd, nd.2.1, fun a ha b hb e => ?_⟩
    subst e
    rcases g'.new a ha with z | z
    · exact nd.2.2 a z a hb rfl
    · exact g.hold (a := a) (.inr (by rw [own_append]; exact List.mem_append_right _ hb)) z
  · rcases g.new a (by rw [own_append]; exact List.mem_append_left _ z) with y | y
    · exact w y
    · rw [y] at h; cases h
  · rw [own_append, List.mem_append] at h
    rcases h with h | h
    · rcases g'.new a h with z | z
      · exact g.new a (by rw [own_append]; exact List.mem_append_left _ z)
      · by_cases w : c.W a
        · exact .inl w
        · refine .inr ?_
          cases e : c.H0 a with
          | none => rfl
          | some o =>
            have z' : H a = none := z
            rw [g.fr a o e w] at z'; cases z'
    · exact g.new a (by rw [own_append]; exact List.mem_append_right _ h)

/-! ### what a def promises over data -/
inductive FRes where
  | ok (rv : SV) (outs : List SV)
  | er (e : Ex) (outs : List SV)
abbrev Fn := List SV → Option FRes
def asP (as : List SV) (vs : List V) : Pl := tsP (as.zip vs)
/-- T: what others own; W: the arguments that are handed over to be changed -/
def spD (K : PySem.W.Frag) (n : Nat) (g : Fn) : Sp := fun vs H Q E => ∃ (T : Addr → Prop) (as : List SV), as.length = n ∧ vs.length = n ∧
  let c : Fc := { K := K, T := T, H0 := H, W := fun a => a ∈ Own (asP as vs), cv := fun _ => false, pin := fun _ => none }
  G c [] (asP as vs) H ∧ match g as with
    | some (.ok rv outs) => ∀ v H', G c [] ((rv, some v) :: asP outs vs) H' → Q v H'
    | some (.er e outs) => ∀ cls od H', G c [] (asP outs vs) H' → ExRep K (Av c (asP outs vs)) H' e cls od → E cls od H'
    | none => False
structure CalD (P : Program) (w : World) (K : PySem.W.Frag) (mg : Str → Option Value) (base : Heap) (CX : CXT) (k : Nat) (x : Str) (n : Nat) (g : Fn) : Prop where
  ex : ∃ (f : Addr) (fd : FuncData) (ps : List Str), FnOk P w K mg base CX k f fd ps (spD K n g) ∧ mg x = some (.ref f) ∧ PySem.W.keepIn K (.ref f) = true ∧ Binds K fd ps []
theorem CalD.mono {P : Program} {w : World} {K : PySem.W.Frag} {mg : Str → Option Value} {base : Heap} {CX : CXT} {j k : Nat} {x : Str} {n : Nat} {g : Fn} (h : CalD P w K mg base CX j x n g) (hj : j ≤ k) : CalD P w K mg base CX k x n g := by
  obtain ⟨f, fd, ps, F, a, b, d⟩ := h.ex
  exact ⟨f, fd, ps, F.mono hj, a, b, d⟩
/-- arguments made ready -/
def prep1 (b : Bool) : SV → M SV
  | .fz d => ret (.fz d)
  | .own d => if b then ret (.own d) else ret (.fz d)
  | .loc i => fun ρ => match ρ[i]? with
    | some (.own d) => if b then some (.ok (.own d) (ρ.set i .un)) else some (.ok (.fz d) (ρ.set i (.fz d)))
    | some (.fz d) => if b then none else some (.ok (.fz d) ρ)
    | _ => none
  | .un => fun _ => none
def prep : List Bool → List SV → M (List SV)
  | b :: bs, s :: ss => (prep1 b s).bnd fun a => (prep bs ss).bnd fun as => ret (a :: as)
  | [], [] => ret []
  | _, _ => fun _ => none
/-- .. and given back -/
def give : List Bool → List SV → List SV → List SV → Option (List SV)
  | b :: bs, s :: ss, o :: os, ρ => match b, s, o with
    | true, .loc i, .own d => match ρ[i]? with
      | some .un => (give bs ss os (ρ.set i (.own d)))
      | _ => none
    | true, .loc _, _ => none
    | _, _, _ => give bs ss os ρ
  | [], [], [], ρ => some ρ
  | _, _, _, _ => none
def mCallT (io : List Bool) (g : Fn) (svs : List SV) : M SV := (prep io svs).bnd fun as => fun ρ => match g as with
  | some (.ok rv outs) => match rv with
    | .fz d => (give io svs outs ρ).map (.ok (.fz d))
    | .own d => (give io svs outs ρ).map (.ok (.own d))
    | _ => none
  | some (.er e outs) => (give io svs outs ρ).map (.er e)
  | none => none
def mCall (io : List Bool) (g : Fn) (ma : M (List SV)) : M SV := ma.bnd fun svs => mCallT io g svs
theorem R.take (r : R c σ ρ ((.loc i, v) :: ts) H) (h : ρ[i]? = some (.own d)) : R c σ (ρ.set i .un) ((.own d, v) :: ts) H := by
  have hv := r.loc_at
  obtain ⟨ov, e1, g, k⟩ := r.pop.at h
  rw [hv] at e1; cases e1
  have := k .un (some v) σ H (fun j z => by cases z) g.drop.push_un (set_same hv).symm
  refine ⟨this.len, this.nl, ?_⟩
  show G c σ ((SV.own d, some v) :: (tsP ts ++ (ρ.set i .un).zip σ)) H
  have e3 : (ρ.set i .un).zip σ = (ρ.zip σ).set i (.un, some v) := by
    conv => lhs; rw [← set_same (l := σ) hv]
    exact zip_set _ _
  obtain ⟨ov', e4, e5⟩ := zip_get r.len h
  rw [hv] at e4; cases e4
  have hl : i < (ρ.zip σ).length := (List.getElem?_eq_some_iff.mp e5).1
  rw [e3]
  refine G.perm (P := (SV.un, some v) :: (SV.own d, some v) :: (tsP ts ++ (ρ.zip σ).eraseIdx i)) g.push_un ?_
  refine (List.Perm.swap _ _ _).trans (List.Perm.cons _ ?_)
  exact (List.perm_middle.symm).trans (List.Perm.append_left _ (perm_set hl).symm)
theorem R.giveBack (r : R c σ ρ ((sv, v) :: ts) H) (n : ∀ j, sv ≠ .loc j) (hv : σ[i]? = some (some v)) {s0 : SV} (h : ρ[i]? = some s0) : R c σ (ρ.set i sv) ts H := by
  obtain ⟨ov, e1, g, k⟩ := r.pop.at h
  rw [hv] at e1; cases e1
  refine k sv (some v) σ H n ?_ (set_same hv).symm
  obtain ⟨ov', e4, g2, _⟩ := r.at h
  exact G.drop (g2)
theorem r_prep1 {b : Bool} {a : SV} {ρ' : List SV} (r : R c σ ρ ((sv, v) :: ts) H) (h : prep1 b sv ρ = some (.ok a ρ')) : R c σ ρ' ((a, v) :: ts) H ∧ (∀ j, a ≠ .loc j) := by
  cases sv with
  | un => simp [prep1] at h
  | fz d => simp only [prep1, ret, Option.some.injEq, Res.ok.injEq] at h; obtain ⟨rfl, rfl⟩ := h; exact ⟨r, fun j z => by cases z⟩
  | own d =>
    simp only [prep1] at h
    split at h
    · simp only [ret, Option.some.injEq, Res.ok.injEq] at h; obtain ⟨rfl, rfl⟩ := h; exact ⟨r, fun j z => by cases z⟩
    · simp only [ret, Option.some.injEq, Res.ok.injEq] at h; obtain ⟨rfl, rfl⟩ := h; exact ⟨r.freeze, fun j z => by cases z⟩
  | loc i =>
    simp only [prep1] at h
    split at h
    · rename_i d e
      split at h
      · simp only [Option.some.injEq, Res.ok.injEq] at h; obtain ⟨rfl, rfl⟩ := h
        exact ⟨r.take e, fun j z => by cases z⟩
      · simp only [Option.some.injEq, Res.ok.injEq] at h; obtain ⟨rfl, rfl⟩ := h
        have hl : i < ρ.length := (List.getElem?_eq_some_iff.mp e).1
        exact ⟨(r.demote e).loc_fz (by simp [hl]), fun j z => by cases z⟩
    · rename_i d e
      split at h
      · cases h
      · simp only [Option.some.injEq, Res.ok.injEq] at h; obtain ⟨rfl, rfl⟩ := h
        exact ⟨r.loc_fz e, fun j z => by cases z⟩
    · cases h
theorem prep1_er {b : Bool} {x : Ex} {ρ' : List SV} : prep1 b sv ρ ≠ some (.er x ρ') := by
  cases sv with
  | un => simp [prep1]
  | fz d => simp [prep1, ret]
  | own d => simp only [prep1]; split <;> simp [ret]
  | loc i => simp only [prep1]; split <;> (try split) <;> simp
theorem r_prep : ∀ {bs : List Bool} {svs as : List SV} {vs : List V} {ρ ρ' : List SV} {ts : Ts}, R c σ ρ (svs.zip vs ++ ts) H → svs.length = vs.length → prep bs svs ρ = some (.ok as ρ') → R c σ ρ' (as.zip vs ++ ts) H ∧ as.length = vs.length ∧ NoLocP (asP as vs)
  | [], [], as, vs, ρ, ρ', ts, r, hl, h => by
    simp only [prep, ret, Option.some.injEq, Res.ok.injEq] at h
    obtain ⟨rfl, rfl⟩ := h
    exact ⟨r, hl, fun i o z => by simp [asP, tsP] at z⟩
  | b :: bs, s :: ss, as, vs, ρ, ρ', ts, r, hl, h => by
    cases vs with
    | nil => cases hl
    | cons v vs =>
    simp only [prep] at h
    cases e1 : prep1 b s ρ with
    | none => rw [bnd_none e1] at h; cases h
    | some x =>
      cases x with
      | er x _ => exact absurd e1 prep1_er
      | ok a ρ1 =>
        rw [bnd_some e1] at h
        cases e2 : prep bs ss ρ1 with
        | none => rw [bnd_none e2] at h; cases h
        | some x =>
          cases x with
          | er x _ => rw [bnd_er e2] at h; cases h
          | ok as1 ρ2 =>
            rw [bnd_some e2] at h
            simp only [ret, Option.some.injEq, Res.ok.injEq] at h
            obtain ⟨rfl, rfl⟩ := h
            obtain ⟨r1, n1⟩ := r_prep1 (ts := ss.zip vs ++ ts) r e1
            obtain ⟨r3, l3, n3⟩ := r_prep (r1.perm List.perm_middle.symm) (by simpa using hl) e2
            refine ⟨r3.perm List.perm_middle, by simp [l3], fun i o z => ?_⟩
            rcases List.mem_cons.mp z with z | z
            · cases z
              exact n1 i rfl
            · exact n3 i o z
  | [], _ :: _, as, vs, ρ, ρ', ts, r, hl, h => by simp [prep] at h
  | _ :: _, [], as, vs, ρ, ρ', ts, r, hl, h => by simp [prep] at h
theorem prep_er : ∀ {bs : List Bool} {svs : List SV} {ρ ρ' : List SV} {x : Ex}, prep bs svs ρ ≠ some (.er x ρ')
  | [], [], ρ, ρ', x => by simp [prep, ret]
  | b :: bs, s :: ss, ρ, ρ', x => by
    simp only [prep]
    cases e1 : prep1 b s ρ with
    | none => rw [bnd_none e1]; simp
    | some y =>
      cases y with
      | er y _ => exact absurd e1 prep1_er
      | ok a ρ1 =>
        rw [bnd_some e1]
        cases e2 : prep bs ss ρ1 with
        | none => rw [bnd_none e2]; simp
        | some y =>
          cases y with
          | er y _ => exact absurd e2 prep_er
          | ok as1 ρ2 => rw [bnd_some e2]; simp [ret]
  | [], _ :: _, ρ, ρ', x => by simp [prep]
  | _ :: _, [], ρ, ρ', x => by simp [prep]
theorem give_len : ∀ {bs : List Bool} {svs os : List SV} {ρ ρ' : List SV}, give bs svs os ρ = some ρ' → os.length = bs.length
  | [], [], [], ρ, ρ', h => rfl
  | b :: bs, s :: ss, o :: os, ρ, ρ', h => by
    simp only [give] at h
    split at h
    · split at h
      · simpa using give_len h
      · cases h
    · cases h
    · simpa using give_len h
  | [], _ :: _, _, ρ, ρ', h => by simp [give] at h
  | [], [], _ :: _, ρ, ρ', h => by simp [give] at h
  | _ :: _, [], _, ρ, ρ', h => by simp [give] at h
  | _ :: _, _ :: _, [], ρ, ρ', h => by simp [give] at h
theorem avr_give (hl : ρ.length = σ.length) (hv : σ[i]? = some (some v)) {s0 : SV} (h : ρ[i]? = some s0) : ∀ a, Avr c σ (ρ.set i sv) ts a → Avr c σ ρ ((sv, v) :: ts) a := fun a z => by
  have e3 : (ρ.set i sv).zip σ = (ρ.zip σ).set i (sv, some v) := by
    conv => lhs; rw [← set_same (l := σ) hv]
    exact zip_set _ _
  obtain ⟨ov', e4, e5⟩ := zip_get hl h
  have hlz : i < (ρ.zip σ).length := (List.getElem?_eq_some_iff.mp e5).1
  refine z.imp id fun m => ?_
  rw [e3] at m
  have pm : (tsP ts ++ (ρ.zip σ).set i (sv, some v)).Perm ((sv, some v) :: (tsP ts ++ (ρ.zip σ).eraseIdx i)) := (List.Perm.append_left _ (perm_set hlz)).trans List.perm_middle
  have m2 := (own_perm pm).mem_iff.mp m
  have sl : ((sv, some v) :: (tsP ts ++ (ρ.zip σ).eraseIdx i)).Sublist ((sv, some v) :: (tsP ts ++ ρ.zip σ)) := List.Sublist.cons_cons _ (List.Sublist.append_left (List.eraseIdx_sublist _ _) _)
  exact (sl.filterMap ownA).subset m2
/-- slots that the callee had come back; hv: the values are the slots' -/
theorem r_give : ∀ {bs : List Bool} {svs os : List SV} {vs : List V} {ρ ρ' : List SV} {ts : Ts}, R c σ ρ (os.zip vs ++ ts) H → svs.length = vs.length → os.length = vs.length → (∀ i v, (SV.loc i, v) ∈ svs.zip vs → σ[i]? = some (some v)) → give bs svs os ρ = some ρ' → R c σ ρ' ts H ∧ ∀ a, Avr c σ ρ' ts a → Avr c σ ρ (os.zip vs ++ ts) a
  | [], [], [], vs, ρ, ρ', ts, r, hl, ho, hv, h => by
    simp only [give, Option.some.injEq] at h
    subst h
    cases vs with
    | nil => exact ⟨r, fun a z => z⟩
    | cons _ _ => cases hl
  | b :: bs, s :: ss, o :: os, vs, ρ, ρ', ts, r, hl, ho, hv, h => by
    cases vs with
    | nil => cases hl
    | cons v vs =>
    have hv' : ∀ i u, (SV.loc i, u) ∈ ss.zip vs → σ[i]? = some (some u) := fun i u z => hv i u (List.mem_cons_of_mem _ z)
    have l1 : ss.length = vs.length := by simpa using hl
    have l2 : os.length = vs.length := by simpa using ho
    simp only [give] at h
    split at h
    · rename_i i d
      split at h
      · rename_i e
        have r1 : R c σ (ρ.set i (.own d)) (os.zip vs ++ ts) H := R.giveBack (sv := .own d) (v := v) r (fun j z => by cases z) (hv i v List.mem_cons_self) e
        obtain ⟨r2, y⟩ := r_give r1 l1 l2 hv' h
        exact ⟨r2, fun a z => avr_give (ts := os.zip vs ++ ts) r.len (hv i v List.mem_cons_self) e a (y a z)⟩
      · cases h
    · cases h
    · obtain ⟨r2, y⟩ := r_give (R.pop (t := (o, v)) r) l1 l2 hv' h
      exact ⟨r2, fun a z => avr_sub (t := (o, v)) a (y a z)⟩
  | [], _ :: _, _, vs, ρ, ρ', ts, r, hl, ho, hv, h => by simp [give] at h
  | [], [], _ :: _, vs, ρ, ρ', ts, r, hl, ho, hv, h => by simp [give] at h
  | _ :: _, [], _, vs, ρ, ρ', ts, r, hl, ho, hv, h => by simp [give] at h
  | _ :: _, _ :: _, [], vs, ρ, ρ', ts, r, hl, ho, hv, h => by simp [give] at h
theorem tsP_append {a b : Ts} : tsP (a ++ b) = tsP a ++ tsP b := List.map_append
theorem prep_len : ∀ {bs : List Bool} {svs as : List SV} {ρ ρ' : List SV}, prep bs svs ρ = some (.ok as ρ') → as.length = svs.length ∧ bs.length = svs.length
  | [], [], as, ρ, ρ', h => by simp only [prep, ret, Option.some.injEq, Res.ok.injEq] at h; obtain ⟨rfl, _⟩ := h; exact ⟨rfl, rfl⟩
  | b :: bs, s :: ss, as, ρ, ρ', h => by
    simp only [prep] at h
    cases e1 : prep1 b s ρ with
    | none => rw [bnd_none e1] at h; cases h
    | some x =>
      cases x with
      | er x _ => exact absurd e1 prep1_er
      | ok a ρ1 =>
        rw [bnd_some e1] at h
        cases e2 : prep bs ss ρ1 with
        | none => rw [bnd_none e2] at h; cases h
        | some x =>
          cases x with
          | er x _ => rw [bnd_er e2] at h; cases h
          | ok as1 ρ2 =>
            rw [bnd_some e2] at h
            simp only [ret, Option.some.injEq, Res.ok.injEq] at h
            obtain ⟨rfl, rfl⟩ := h
            obtain ⟨a, b⟩ := prep_len e2
            exact ⟨by simp [a], by simp [b]⟩
  | [], _ :: _, as, ρ, ρ', h => by simp [prep] at h
  | _ :: _, [], as, ρ, ρ', h => by simp [prep] at h
/-- the reading of a call of one's own def -/
theorem readCallT {io : List Bool} {g : Fn} {svs : List SV} {n : Nat} {ρ1 : List SV} {H1 : Hp} (hn : io.length = n) {Q : VK} (hl : svs.length = vs.length) (R2 : R c σ ρ1 (svs.zip vs ++ ts) H1) (q1 : PostE c W σ ts Q (mCallT io g svs ρ1)) : spD c.K n g vs H1 Q (fun cls od H' => W cls od σ H') := by
  unfold mCallT at q1
  cases e : prep io svs ρ1 with
  | none => rw [bnd_none e] at q1; exact q1.elim
  | some x =>
    cases x with
    | er x _ => exact absurd e prep_er
    | ok as ρ2 =>
      rw [bnd_some e] at q1
      obtain ⟨R3, l3, n3⟩ := r_prep R2 hl e
      obtain ⟨l4, l5⟩ := prep_len e
      have g3 : G c σ (asP as vs ++ (tsP ts ++ ρ2.zip σ)) H1 := by
        have := R3.g
        rw [tsP_append, List.append_assoc] at this
        exact this
      have hv : ∀ i v, (SV.loc i, v) ∈ svs.zip vs → σ[i]? = some (some v) := fun i v z => by
        obtain ⟨_, w, e, e2⟩ := R2.g.rs _ (List.mem_append_left _ (tsP_mem (List.mem_append_left _ z)))
        cases e
        exact e2
      refine ⟨fun a => c.T a ∨ a ∈ Own (tsP ts ++ ρ2.zip σ), as, by omega, by omega, g3.enter n3, ?_⟩
      cases eg : g as with
      | none => rw [eg] at q1; exact q1.elim
      | some y =>
        rw [eg] at q1
        cases y with
        | ok rv outs =>
          simp only at q1 ⊢
          have key : ∀ (d : SV), (∀ j, d ≠ .loc j) → PostE c W σ ts Q ((give io svs outs ρ2).map (.ok d)) → ∀ v H', G (c0 c (asP as vs) (tsP ts ++ ρ2.zip σ) H1) [] ((d, some v) :: asP outs vs) H' → Q v H' := fun d hd q2 => by
            cases eo : give io svs outs ρ2 with
            | none => rw [eo] at q2; exact q2.elim
            | some ρ3 =>
              rw [eo] at q2
              have lo : outs.length = n := give_len eo |>.trans (by omega)
              refine fun v H' g' => q2 v H' ?_
              have g4 := g3.leave g'
              have R4 : R c σ ρ2 (outs.zip vs ++ ((d, v) :: ts)) H' := by
                refine ⟨R3.len, R3.nl, ?_⟩
                rw [tsP_append, List.append_assoc]
                exact g4.perm List.perm_middle.symm
              exact (r_give R4 hl (by omega) hv eo).1
          split at q1
          · exact key _ (fun j z => by cases z) q1
          · exact key _ (fun j z => by cases z) q1
          · exact q1.elim
        | er x outs =>
          simp only at q1 ⊢
          cases eo : give io svs outs ρ2 with
          | none => rw [eo] at q1; exact q1.elim
          | some ρ3 =>
            rw [eo] at q1
            have lo : outs.length = n := give_len eo |>.trans (by omega)
            refine fun cls od H' g' z => ?_
            have g4 := g3.leave g'
            have R4 : R c σ ρ2 (outs.zip vs ++ ts) H' := by
              refine ⟨R3.len, R3.nl, ?_⟩
              rw [tsP_append, List.append_assoc]
              exact g4
            obtain ⟨R5, y⟩ := r_give R4 hl (by omega) hv eo
            refine q1 cls od H' R5 (z.less fun a w => ?_)
            rcases y a w with w | w
            · exact .inl (.inl w)
            · rw [tsP_append, List.append_assoc, own_append, List.mem_append] at w
              rcases w with w | w
              · exact .inr w
              · exact .inl (.inr w)
theorem readCall {io : List Bool} {g : Fn} {ma : M (List SV)} {n : Nat} {K : PySem.W.Frag} (hK : c.K = K) (hn : io.length = n) {Q : VK} (h : tDE c W (mCall io g ma) σ H Q) : tDA c W ma σ H fun vs H1 => spD K n g vs H1 Q (fun cls od H' => W cls od σ H') := by
  subst hK
  obtain ⟨ρ, ts, R1, q⟩ := h
  exact bindA (α := Unit) R1 q fun svs vs ρ1 H1 hl R2 q1 => readCallT hn hl R2 q1
end
end DL

set_option Elab.async false
set_option linter.all false
set_option maxRecDepth 100000
/-! The data layer: calls by name, subscripts, tests. -/
namespace DL
open PySem PySem.Spec PyProof.Rows L2
section
variable {c : Fc} {W : WX} {X : Cx} {σ : L2.St} {ρ : List SV} {ts : Ts} {H H' : Hp} {sv : SV} {d : D} {ds : List D} {v : V} {vs : List V} {p : Addr} {i : Nat}
/-- a call of a def that hands over or freezes what it is given -/
theorem pd_call {CX : CXT} {k j : Nat} {n : Nat} {g : Fn} {x : Str} {p' pos : Pos} {e : Expr} {es : List Expr} {ma : M (List SV)} (io : List Bool) (F : CalD X.prog X.w X.K X.mg X.base CX k x n g) (hr : Room j X.A) (hk : k ≤ j) (hx : ∀ σ, PassesAt CX X σ (WE W σ))
    (hg : Gl X x) (ha : PA X (e :: es) (tDA c W ma)) (hn : io.length = n := by rfl) (hK : c.K = X.K := by rfl)
    (hdb : (x == ("__debug__" : Str)) = false := by decide) (he : starEach (e :: es) X.env = (false, eval e X.env) :: starEach es X.env := by rfl) (hpl : (backTo pos (starEach es X.env)).any (·.1) = false := by rfl) :
    PE X (.Call (.Name x p') (e :: es) [] pos) (tDE c W (mCall io g ma)) := by
  obtain ⟨f, fd, ps, F1, hm, kp, b⟩ := F.ex
  exact pe_imp (pe_callS (E := WE W) F1 (hr.mono hk) hg hm kp b hx ha hdb he hpl) fun σ H Q h => readCall hK hn h
theorem passAt0 {X : Cx} {E : L2.St → XK} : ∀ σ, PassesAt CX0 X σ (E σ) := fun _ _ _ _ _ _ _ h => h.elim

/-! ### a call that lends: nothing of the arguments may come back -/
mutual
def nolist : D → Bool
  | .lst _ => false
  | .obj _ _ _ => false
  | .tup ds => nolists ds
  | .seq ds => nolists ds
  | _ => true
def nolists : List D → Bool
  | [] => true
  | d :: ds => nolist d && nolists ds
end
mutual
theorem Rep.any {K : PySem.W.Frag} {A A' : Addr → Prop} : ∀ {d : D} {v : V}, nolist d = true → Rep K A H d v → Rep K A' H d v
  | .non, _, _, h => h
  | .bl _, _, _, h => h
  | .int _, _, _, h => h
  | .str _, _, _, h => h
  | .seq ds, v, n, h => by
    simp only [Rep] at h ⊢
    obtain ⟨a, vs, e, q, r⟩ := h
    exact ⟨a, vs, e, q, RepL.any (by simpa only [nolist] using n) r⟩
  | .tup ds, v, n, h => by
    simp only [Rep] at h ⊢
    obtain ⟨a, vs, e, q, r⟩ := h
    exact ⟨a, vs, e, q, RepL.any (by simpa only [nolist] using n) r⟩
  | .lst ds, v, n, h => by simp [nolist] at n
  | .obj _ _ _, v, n, h => by simp [nolist] at n
theorem RepL.any {K : PySem.W.Frag} {A A' : Addr → Prop} : ∀ {ds : List D} {vs : List V}, nolists ds = true → RepL K A H ds vs → RepL K A' H ds vs
  | [], vs, _, h => h
  | d :: ds, vs, n, h => by
    simp only [RepL] at h ⊢
    simp only [nolists, Bool.and_eq_true] at n
    obtain ⟨v, vs', e, r, rs⟩ := h
    exact ⟨v, vs', e, Rep.any n.1 r, RepL.any n.2 rs⟩
end
theorem repR_lend {K : PySem.W.Frag} {A A' : Addr → Prop} (h : RepR K A H d v) (h1 : ∀ a, A' a → A a) (h2 : ∀ a, v = .ref a → ¬ A' a) : Rep K A' H d v := by
  cases d with
  | lst ds =>
    obtain ⟨a, vs, e, q, r⟩ := h
    simp only [Rep]
    exact ⟨a, vs, e, ⟨q, h2 a e⟩, r.less fun a y => .inl (h1 a y)⟩
  | non => exact Rep.less (A := A) h fun a y => .inl (h1 a y)
  | bl _ => exact Rep.less (A := A) h fun a y => .inl (h1 a y)
  | int _ => exact Rep.less (A := A) h fun a y => .inl (h1 a y)
  | str _ => exact Rep.less (A := A) h fun a y => .inl (h1 a y)
  | tup _ => exact Rep.less (A := A) h fun a y => .inl (h1 a y)
  | seq _ => exact Rep.less (A := A) h fun a y => .inl (h1 a y)
  | obj _ _ _ => exact Rep.less (A := A) h fun a y => .inl (h1 a y)
def mCallP (n : Nat) (g : Fn) (ma : M (List SV)) : M SV := ma.bnd fun svs => fun ρ => if svs.length = n then (match cons ρ svs with
  | some ds => match g (ds.map .fz) with
    | some (.ok (.fz d) _) => if nolist d = true then some (.ok (.fz d) ρ) else mCallT (List.replicate svs.length false) g svs ρ
    | some (.ok (.own (.lst es)) _) => if nolists es = true then some (.ok (.own (.lst es)) ρ) else mCallT (List.replicate svs.length false) g svs ρ
    | some (.er e _) => if nolists (e.fs.map (·.2)) = true then some (.er e ρ) else mCallT (List.replicate svs.length false) g svs ρ
    | _ => none
  | none => none) else none
theorem own_fz : ∀ (ds : List D) (vs : List V), Own (asP (ds.map .fz) vs) = []
  | [], vs => by cases vs <;> rfl
  | d :: ds, [] => rfl
  | d :: ds, v :: vs => own_fz ds vs
theorem rs_fz {K : PySem.W.Frag} {A A' : Addr → Prop} (h1 : ∀ a, A' a → A a) : ∀ {ds : List D} {vs us : List V}, RepRL K A H ds vs → (∀ v ∈ vs, v ∈ us) → (∀ a, A' a → V.ref a ∉ us) → ∀ x ∈ asP (ds.map .fz) vs, ∃ d v, x = (SV.fz d, some v) ∧ Rep K A' H d v
  | [], vs, us, h, hm, n, x, hx => by simp [asP, tsP] at hx
  | d :: ds, vs, us, h, hm, n, x, hx => by
    obtain ⟨v, vs', rfl, r, rs⟩ := h
    rcases List.mem_cons.mp hx with e | hx
    · exact ⟨d, v, e, repR_lend r h1 fun a e w => n a w (by rw [← e]; exact hm v List.mem_cons_self)⟩
    · exact rs_fz h1 rs (fun v z => hm v (List.mem_cons_of_mem _ z)) n x hx
theorem repRL_len {K : PySem.W.Frag} {A : Addr → Prop} : ∀ {ds : List D} {vs : List V}, RepRL K A H ds vs → vs.length = ds.length
  | [], vs, h => by rw [show vs = [] from h]; rfl
  | d :: ds, vs, h => by
    obtain ⟨v, vs', rfl, r, rs⟩ := h
    simp [repRL_len rs]
theorem readCallP {g : Fn} {ma : M (List SV)} {n : Nat} {K : PySem.W.Frag} (hK : c.K = K) {Q : VK} (h : tDE c W (mCallP n g ma) σ H Q) : tDA c W ma σ H fun vs H1 => spD K n g vs H1 Q (fun cls od H' => W cls od σ H') := by
  subst hK
  obtain ⟨ρ, ts, R1, q⟩ := h
  refine ⟨ρ, ts, R1, ?_⟩
  unfold mCallP at q
  cases em : ma ρ with
  | none => rw [bnd_none em] at q; exact q
  | some x =>
  cases x with
  | er x ρ' => rw [bnd_er em] at q; exact q
  | ok svs ρ1 =>
  rw [bnd_some em] at q
  intro vs H1 hl R2
  split at q
  case isFalse => exact q.elim
  rename_i hn'
  cases e : cons ρ1 svs with
  | none => rw [e] at q; exact q.elim
  | some ds =>
    rw [e] at q
    simp only at q
    have rr := r_cons R2 (fun t ht => List.mem_append_left _ ht) hl e
    have fall : PostE c W σ ts Q (mCallT (List.replicate svs.length false) g svs ρ1) → spD c.K n g vs H1 Q (fun cls od H' => W cls od σ H') := fun qz => readCallT (by simp [hn']) hl R2 qz
    have T0 : ∀ a, (Avr c σ ρ1 (svs.zip vs ++ ts) a ∧ V.ref a ∉ vs) → Avr c σ ρ1 (svs.zip vs ++ ts) a := fun a z => z.1
    have g0 : G { K := c.K, T := fun a => Avr c σ ρ1 (svs.zip vs ++ ts) a ∧ V.ref a ∉ vs, H0 := H1, W := fun a => a ∈ Own (asP (ds.map .fz) vs), cv := fun _ => false, pin := fun _ => none } [] (asP (ds.map .fz) vs) H1 := by
      refine ⟨fun x hx => ?_, by rw [own_fz]; exact List.nodup_nil, fun a o h _ => h, fun a h => .inl h, fun a h => ⟨R2.g.hold h.1, fun w => ?_⟩, fun i v e => by cases e⟩
      · obtain ⟨d, v, rfl, r⟩ := rs_fz (A' := fun a => Avr c σ ρ1 (svs.zip vs ++ ts) a ∧ V.ref a ∉ vs) (us := vs) T0 rr (fun v z => z) (fun a z => z.2) x hx
        refine ⟨v, rfl, r.less fun a y => .inl ?_⟩
        rcases y with y | y
        · exact y
        · rw [own_fz] at y; cases y
      · have w' : a ∈ Own (asP (ds.map .fz) vs) := w
        rw [own_fz] at w'; cases w'
    have lv : vs.length = n := by omega
    have ld := repRL_len rr
    have R5 := R.pops _ R2
    cases eg : g (ds.map .fz) with
    | none => rw [eg] at q; exact q.elim
    | some y =>
      rw [eg] at q
      have ext : ∀ {P : Pl} {H' : Hp}, G { K := c.K, T := fun a => Avr c σ ρ1 (svs.zip vs ++ ts) a ∧ V.ref a ∉ vs, H0 := H1, W := fun a => a ∈ Own (asP (ds.map .fz) vs), cv := fun _ => false, pin := fun _ => none } [] P H' → ∀ a o, H1 a = some o → H' a = some o := fun g' a o z => g'.fr a o z fun w => by
        have w' : a ∈ Own (asP (ds.map .fz) vs) := w
        rw [own_fz] at w'; cases w'
      cases y with
      | er x outs =>
        simp only at q
        split at q
        · rename_i hc
          refine ⟨_, ds.map .fz, by simp; omega, lv, g0, ?_⟩
          rw [eg]
          intro cls od H' g' z
          refine q cls od H' (R5.ext (ext g')) ⟨z.1, ?_⟩
          have z2 := z.2
          cases x with
          | mk cl fs =>
          cases fs with
          | nil => trivial
          | cons f fs =>
            obtain ⟨d, vs, e1, e2, r⟩ := z2
            exact ⟨d, vs, e1, e2, RepL.any hc r⟩
        · exact fall q
      | ok rv outs =>
        cases rv with
        | fz d =>
          simp only at q
          split at q
          · rename_i hc
            refine ⟨_, ds.map .fz, by simp; omega, lv, g0, ?_⟩
            rw [eg]
            intro v H' g'
            obtain ⟨w, e2, r⟩ := g'.rs _ List.mem_cons_self
            cases e2
            exact q v H' ((R5.ext (ext g')).push_fz (Rep.any hc r))
          · exact fall q
        | own d =>
          cases d with
          | lst es =>
            simp only at q
            split at q
            · rename_i hc
              refine ⟨_, ds.map .fz, by simp; omega, lv, g0, ?_⟩
              rw [eg]
              intro v H' g'
              obtain ⟨p, ds', vs', rfl, e2, e3, r, n1, n2, n3⟩ := g'.own_at
              cases e2
              have hp : H1 p = none := by
                rcases n3 with z | z
                · have w' : p ∈ Own (asP (ds.map .fz) vs) := z
                  rw [own_fz] at w'; cases w'
                · exact z
              exact q _ H' (R5.push_any hp e3 (ext g') fun A => RepL.any hc r)
            · exact fall q
          | _ => exact q.elim
        | _ => exact q.elim
theorem pd_callP {CX : CXT} {k j : Nat} {n : Nat} {g : Fn} {x : Str} {p' pos : Pos} {e : Expr} {es : List Expr} {ma : M (List SV)} (F : CalD X.prog X.w X.K X.mg X.base CX k x n g) (hr : Room j X.A) (hk : k ≤ j) (hx : ∀ σ, PassesAt CX X σ (WE W σ))
    (hg : Gl X x) (ha : PA X (e :: es) (tDA c W ma)) (hK : c.K = X.K := by rfl)
    (hdb : (x == ("__debug__" : Str)) = false := by decide) (he : starEach (e :: es) X.env = (false, eval e X.env) :: starEach es X.env := by rfl) (hpl : (backTo pos (starEach es X.env)).any (·.1) = false := by rfl) :
    PE X (.Call (.Name x p') (e :: es) [] pos) (tDE c W (mCallP n g ma)) := by
  obtain ⟨f, fd, ps, F1, hm, kp, b⟩ := F.ex
  exact pe_imp (pe_callS (E := WE W) F1 (hr.mono hk) hg hm kp b hx ha hdb he hpl) fun σ H Q h => readCallP hK h

/-! ### places and parts -/
theorem atI_rep {K : PySem.W.Frag} {A : Addr → Prop} {k : Int} (r : RepL K A H ds vs) (h : atI ds k = some d) : ∃ v, atI vs k = some v ∧ Rep K A H d v := by
  unfold atI at h ⊢
  rw [r.length]
  cases e : ixN ds.length k with
  | none => rw [e] at h; cases h
  | some j =>
    rw [e] at h
    exact r.get h
def fIx : D → D → Option BR
  | .lst ds, .int k => (atI ds k).map .imm
  | .tup ds, .int k => (atI ds k).map .imm
  | .seq ds, .int k => (atI ds k).map .imm
  | .str z, .int k => if z.length ≤ sizeLine then (atI z.cps.toList k).map fun c => .imm (.str ⟨#[c]⟩) else none
  | _, _ => none
theorem opB_ix {K : PySem.W.Frag} : OpB K (rIx K) fIx := by
  intro A H d1 d2 v1 v2 b Q h1 h2 e q
  unfold fIx at e
  split at e
  · rw [Option.map_eq_some_iff] at e
    obtain ⟨d, e, rfl⟩ := e
    obtain ⟨a, vs, e1, e2, r⟩ := repR_lst h1
    obtain ⟨v, e3, r3⟩ := atI_rep r e
    exact .inl ⟨a, vs, _, v, e1, repR_int h2, SqL.of e2, e3, q v r3⟩
  · rw [Option.map_eq_some_iff] at e
    obtain ⟨d, e, rfl⟩ := e
    obtain ⟨a, vs, e1, e2, r⟩ := repR_tup h1
    obtain ⟨v, e3, r3⟩ := atI_rep r e
    exact .inr (.inl ⟨a, vs, _, v, e1, repR_int h2, e2, e3, q v r3⟩)
  · rw [Option.map_eq_some_iff] at e
    obtain ⟨d, e, rfl⟩ := e
    obtain ⟨a, vs, e1, e2, r⟩ := repR_seq h1
    obtain ⟨v, e3, r3⟩ := atI_rep r e
    exact .inl ⟨a, vs, _, v, e1, repR_int h2, e2.sq, e3, q v r3⟩
  · split at e
    · rename_i hc
      rw [Option.map_eq_some_iff] at e
      obtain ⟨d, e, rfl⟩ := e
      exact .inr (.inr ⟨_, _, d, repR_str h1, repR_int h2, hc, e, q _ (rep_str _)⟩)
    · cases e
  · cases e
theorem pd_ix {a b : Expr} {ma mb : M SV} {pos : Pos} (ha : PE X a (tDE c W ma)) (hb : PE X b (tDE c W mb)) (hs : PlainIx b := by exact fun _ _ => rfl) (hK : c.K = X.K := by rfl) : PE X (.Subscript a b pos) (tDE c W (mBin (lift2 fIx) ma mb)) :=
  pe_imp (pe_ix ix_seq ha hb hs) fun σ H Q h => read2 (r := rIx X.K) (opS_of (hK ▸ opB_ix)) h
/-! slices -/
def mPart (m : M SV) : M (Option Int) := m.bnd fun s => match s with
  | .fz (.int i) => ret (some i)
  | _ => fun _ => none
def mNoPart : M (Option Int) := ret none
def PostO (c : Fc) (W : WX) (σ : L2.St) (ts : Ts) (Q : Option Int → Hp → Prop) : Option (Res (Option Int)) → Prop
  | some (.ok b ρ) => ∀ H, R c σ ρ ts H → Q b H
  | some (.er e ρ) => ∀ cls od H, R c σ ρ ts H → ExRep c.K (Avr c σ ρ ts) H e cls od → W cls od σ H
  | none => False
def tDO (c : Fc) (W : WX) (m : M (Option Int)) : TO := fun σ H Q => ∃ ρ ts, R c σ ρ ts H ∧ PostO c W σ ts Q (m ρ)
theorem po_imp {e : Option Expr} {t t' : TO} (h : PO X e t) (hi : ∀ σ H Q, t' σ H Q → t σ H Q) : PO X e t' := ⟨fun pins s σ H Q I q => h.run pins s σ H Q I (hi _ _ _ q)⟩
theorem pd_po {e : Expr} {m : M SV} (h : PE X e (tDE c W m)) : PO X (some e) (tDO c W (mPart m)) := by
  refine po_imp (po_some h) fun σ H Q ⟨ρ, ts, r, q⟩ => ?_
  refine ⟨ρ, ts, r, ?_⟩
  unfold mPart at q
  cases e1 : m ρ with
  | none => rw [bnd_none e1] at q; exact q.elim
  | some x =>
    cases x with
    | er x ρ' => rw [bnd_er e1] at q; exact q
    | ok s ρ1 =>
      rw [bnd_some e1] at q
      intro v H' r'
      split at q
      · rename_i i
        have z := r'.top_fz
        simp only [Rep] at z
        exact ⟨i, z, q H' r'.pop⟩
      · exact q.elim
theorem pd_po0 : PO X none (tDO c W mNoPart) := po_imp po_none fun σ H Q ⟨ρ, ts, r, q⟩ => q H r
def cutD (ds : List D) (lo hi : Option Int) : List D := (ds.drop (HT.sIx ds.length 0 lo)).take (HT.sIx ds.length ds.length hi - HT.sIx ds.length 0 lo)
theorem cut_rep {K : PySem.W.Frag} {A : Addr → Prop} (r : RepL K A H ds vs) (lo hi : Option Int) : RepL K A H (cutD ds lo hi) (cutV vs lo hi) := by
  unfold cutD cutV
  rw [r.length]
  exact (r.drop _).take _
def fSl (lo hi : Option Int) : D → Option BR
  | .lst ds => some (.newL (cutD ds lo hi))
  | .seq ds => some (.newL (cutD ds lo hi))
  | .tup ds => some (.anyT (cutD ds lo hi))
  | _ => none
def rSl' (K : PySem.W.Frag) : V → Option Int → Option Int → Hp → VK → Prop := fun x lo hi H Q => rSlL K x lo hi H Q ∨ rSlA K x lo hi H Q
theorem slR' : SlR X (rSl' X.K) := SlR.or sl_list sl_tupA
theorem cut_all {α : Type} {xs : List α} {lo hi : Option Int} (h : HT.sIx xs.length 0 lo = 0 ∧ HT.sIx xs.length xs.length hi = xs.length) : (xs.drop (HT.sIx xs.length 0 lo)).take (HT.sIx xs.length xs.length hi - HT.sIx xs.length 0 lo) = xs := by
  rw [h.1, h.2]; simp
theorem unB_sl {K : PySem.W.Frag} {lo hi : Option Int} : UnB K (fun x H Q => rSl' K x lo hi H Q) (fSl lo hi) := by
  intro A H d1 v1 b Q h1 e q
  unfold fSl at e
  split at e
  · cases e
    obtain ⟨a, vs, e1, e2, r⟩ := repR_lst h1
    exact .inl ⟨a, vs, e1, SqL.of e2, fun p hp => q _ p (cut_rep r lo hi) hp⟩
  · cases e
    obtain ⟨a, vs, e1, e2, r⟩ := repR_seq h1
    exact .inl ⟨a, vs, e1, e2.sq, fun p hp => q _ p (cut_rep r lo hi) hp⟩
  · cases e
    rename_i ds
    obtain ⟨a, vs, e1, e2, r⟩ := repR_tup h1
    refine .inr ⟨a, vs, e1, e2, fun z => ?_, fun z p hp => q.2 _ p (cut_rep r lo hi) hp⟩
    have : cutD ds lo hi = ds := by
      unfold cutD
      rw [r.length] at z
      exact cut_all z
    rw [this] at q
    exact q.1 _ (rep_tup e2 r)
  · cases e
def mSl (m : M SV) (ml mh : M (Option Int)) : M SV := m.bnd fun s => ml.bnd fun lo => mh.bnd fun hi => lift1 (fSl lo hi) s
theorem pd_slice {e : Expr} {lo hi : Option Expr} {m : M SV} {ml mh : M (Option Int)} {pos p2 : Pos} (he : PE X e (tDE c W m)) (hl : PO X lo (tDO c W ml)) (hh : PO X hi (tDO c W mh)) (hK : c.K = X.K := by rfl) :
    PE X (.Subscript e (.Slice lo hi none p2) pos) (tDE c W (mSl m ml mh)) := by
  refine pe_imp (pe_slice slR' he hl hh) fun σ H Q ⟨ρ, ts, R1, q⟩ => ?_
  refine bindE R1 q fun s v ρ1 H1 R2 q1 => ?_
  refine ⟨ρ1, (s, v) :: ts, R2, ?_⟩
  cases e1 : ml ρ1 with
  | none => rw [bnd_none e1] at q1; exact q1.elim
  | some x =>
    cases x with
    | er x ρ' => rw [bnd_er e1] at q1; exact fun cls od H' r' z => q1 cls od H' r'.pop (z.less avr_sub)
    | ok lo ρ2 =>
      rw [bnd_some e1] at q1
      intro H2 R3
      refine ⟨ρ2, (s, v) :: ts, R3, ?_⟩
      cases e2 : mh ρ2 with
      | none => rw [bnd_none e2] at q1; exact q1.elim
      | some x =>
        cases x with
        | er x ρ' => rw [bnd_er e2] at q1; exact fun cls od H' r' z => q1 cls od H' r'.pop (z.less avr_sub)
        | ok hi ρ3 =>
          rw [bnd_some e2] at q1
          intro H3 R4
          unfold lift1 at q1
          cases e3 : con ρ3 s with
          | none => rw [e3] at q1; exact q1.elim
          | some d =>
            rw [e3] at q1
            simp only at q1
            cases e4 : fSl lo hi d with
            | none => rw [e4] at q1; exact q1.elim
            | some b =>
              rw [e4] at q1
              exact unB_sl (K := X.K) _ H3 d v b Q (hK ▸ R4.con List.mem_cons_self e3) e4 (hK ▸ fin_br (us := [(s, v)]) R4 q1)

/-! ### tests -/
def truD : D → Option Bool
  | .non => some false
  | .bl b => some b
  | .int i => some (i != 0)
  | .lst ds => some (!ds.isEmpty)
  | .tup ds => some (!ds.isEmpty)
  | .seq ds => some (!ds.isEmpty)
  | _ => none
def mTru (m : M SV) : M Bool := m.bnd fun s => fun ρ => match con ρ s with
  | some d => match truD d with
    | some b => some (.ok b ρ)
    | none => none
  | none => none
theorem isEmpty_rep {K : PySem.W.Frag} {A : Addr → Prop} (r : RepL K A H ds vs) : vs.isEmpty = ds.isEmpty := by
  have := r.length
  cases vs <;> cases ds <;> simp_all
theorem tru_of {K : PySem.W.Frag} {A : Addr → Prop} {b : Bool} (h : RepR K A H d v) (e : truD d = some b) : TruV K v H b := by
  cases d with
  | non => rw [repR_non h]; cases e; rfl
  | bl x => rw [repR_bl h]; cases e; rfl
  | int x => rw [repR_int h]; cases e; rfl
  | str x => cases e
  | lst ds =>
    obtain ⟨a, vs, rfl, e2, r⟩ := repR_lst h
    cases e
    exact .inl ⟨vs, SqL.of e2, by rw [isEmpty_rep r]⟩
  | tup ds =>
    obtain ⟨a, vs, rfl, e2, r⟩ := repR_tup h
    cases e
    exact .inr (.inl ⟨vs, e2, by rw [isEmpty_rep r]⟩)
  | seq ds =>
    obtain ⟨a, vs, rfl, e2, r⟩ := repR_seq h
    cases e
    exact .inl ⟨vs, e2.sq, by rw [isEmpty_rep r]⟩
  | obj _ _ _ => cases e
theorem pt_tru {a : Expr} {m : M SV} (ha : PE X a (tDE c W m)) (he : ∀ whole, isTrue a X.env whole = (do let v ← whole; standAt a.pos; holding [v] (truthy v)) := by intro _; rfl) (hK : c.K = X.K := by rfl) : PT X a (tDT c W (mTru m)) := by
  refine pt_imp (pt_truth ha he) fun σ H Q ⟨ρ, ts, R1, q⟩ => ?_
  refine ⟨ρ, ts, R1, ?_⟩
  unfold mTru at q
  cases e1 : m ρ with
  | none => rw [bnd_none e1] at q; exact q.elim
  | some x =>
    cases x with
    | er x ρ' => rw [bnd_er e1] at q; exact q
    | ok s ρ1 =>
      rw [bnd_some e1] at q
      intro v H' r'
      cases e2 : con ρ1 s with
      | none => rw [e2] at q; exact q.elim
      | some d =>
        rw [e2] at q
        simp only at q
        cases e3 : truD d with
        | none => rw [e3] at q; exact q.elim
        | some b =>
          rw [e3] at q
          exact ⟨b, tru_of (hK ▸ r'.con List.mem_cons_self e2) e3, q H' r'.pop⟩
def mNot (m : M Bool) : M Bool := m.bnd fun b => ret (!b)
def mAnd (m n : M Bool) : M Bool := m.bnd fun b => if b = true then n else ret false
def mOr (m n : M Bool) : M Bool := m.bnd fun b => if b = true then ret true else n
theorem bindT {m : M Bool} {f : Bool → M Bool} {Q : Bool → Hp → Prop} (r : R c σ ρ ts H) (h : PostT c W σ ts Q ((m.bnd f) ρ)) {Q' : Bool → Hp → Prop} (k : ∀ b ρ' H', R c σ ρ' ts H' → PostT c W σ ts Q (f b ρ') → Q' b H') : tDT c W m σ H Q' := by
  refine ⟨ρ, ts, r, ?_⟩
  cases e : m ρ with
  | none => rw [bnd_none e] at h; exact h
  | some x =>
    cases x with
    | er x ρ' => rw [bnd_er e] at h; exact h
    | ok b ρ' => rw [bnd_some e] at h; exact fun H' r' => k b ρ' H' r' h
theorem pt_dnot {a : Expr} {m : M Bool} {pos : Pos} (ha : PT X a (tDT c W m)) : PT X (.UnaryOp .Not a pos) (tDT c W (mNot m)) :=
  pt_imp (pt_not ha) fun σ H Q ⟨ρ, ts, R1, q⟩ => bindT R1 q fun b ρ' H' R2 q2 => q2 H' R2
theorem pw_dand1 {a : Expr} {m : M Bool} {pos : Pos} (ha : PT X a (tDT c W m)) : PW X (.BoolOp .And [a] pos) (tDT c W m) := pw_and1 ha
theorem pw_dor1 {a : Expr} {m : M Bool} {pos : Pos} (ha : PT X a (tDT c W m)) : PW X (.BoolOp .Or [a] pos) (tDT c W m) := pw_or1 ha
theorem pw_dand {a b : Expr} {rest : List Expr} {m n : M Bool} {pos : Pos} (ha : PT X a (tDT c W m)) (hb : PW X (.BoolOp .And (b :: rest) pos) (tDT c W n)) : PW X (.BoolOp .And (a :: b :: rest) pos) (tDT c W (mAnd m n)) := by
  refine pw_imp (pw_and ha hb) fun σ H Q ⟨ρ, ts, R1, q⟩ => bindT R1 q fun b ρ' H' R2 q2 => ?_
  cases b with
  | true => exact ⟨ρ', ts, R2, q2⟩
  | false => exact q2 H' R2
theorem pw_dor {a b : Expr} {rest : List Expr} {m n : M Bool} {pos : Pos} (ha : PT X a (tDT c W m)) (hb : PW X (.BoolOp .Or (b :: rest) pos) (tDT c W n)) : PW X (.BoolOp .Or (a :: b :: rest) pos) (tDT c W (mOr m n)) := by
  refine pw_imp (pw_or ha hb) fun σ H Q ⟨ρ, ts, R1, q⟩ => bindT R1 q fun b ρ' H' R2 q2 => ?_
  cases b with
  | true => exact q2 H' R2
  | false => exact ⟨ρ', ts, R2, q2⟩
/-! .. as values -/
def mAndV (m n : M SV) : M SV := m.bnd fun s => match s with
  | .fz (.bl true) => n
  | .fz (.bl false) => ret (.fz (.bl false))
  | _ => fun _ => none
def mOrV (m n : M SV) : M SV := m.bnd fun s => match s with
  | .fz (.bl false) => n
  | .fz (.bl true) => ret (.fz (.bl true))
  | _ => fun _ => none
def mNotV (m : M SV) : M SV := m.bnd fun s => match s with
  | .fz (.bl b) => ret (.fz (.bl (!b)))
  | _ => fun _ => none
theorem top_bl {b : Bool} (r : R c σ ρ ((.fz (.bl b), v) :: ts) H) : v = .bl b := by
  have z := r.top_fz
  simpa only [Rep] using z
theorem pd_not {a : Expr} {m : M SV} {pos : Pos} (ha : PE X a (tDE c W m)) : PE X (.UnaryOp .Not a pos) (tDE c W (mNotV m)) := by
  refine pe_imp (pe_not ha) fun σ H Q ⟨ρ, ts, R1, q⟩ => bindE R1 q fun s v ρ' H' R2 q2 => ?_
  split at q2
  · have e := top_bl R2
    exact ⟨_, e, fin_fz R2.pop (rep_bl _) q2⟩
  · exact q2.elim
theorem pd_and1 {op : BoolOp} {a : Expr} {m : M SV} {pos : Pos} (ha : PE X a (tDE c W m)) : PE X (.BoolOp op [a] pos) (tDE c W m) := pe_one ha
theorem pd_and {a b : Expr} {rest : List Expr} {m n : M SV} {pos : Pos} (ha : PE X a (tDE c W m)) (hb : PE X (.BoolOp .And (b :: rest) pos) (tDE c W n)) : PE X (.BoolOp .And (a :: b :: rest) pos) (tDE c W (mAndV m n)) := by
  refine pe_imp (pe_and ha hb) fun σ H Q ⟨ρ, ts, R1, q⟩ => bindE R1 q fun s v ρ' H' R2 q2 => ?_
  split at q2
  · exact ⟨true, top_bl R2, ρ', ts, R2.pop, q2⟩
  · exact ⟨false, top_bl R2, fin_fz R2.pop (rep_bl _) q2⟩
  · exact q2.elim
theorem pd_or {a b : Expr} {rest : List Expr} {m n : M SV} {pos : Pos} (ha : PE X a (tDE c W m)) (hb : PE X (.BoolOp .Or (b :: rest) pos) (tDE c W n)) : PE X (.BoolOp .Or (a :: b :: rest) pos) (tDE c W (mOrV m n)) := by
  refine pe_imp (pe_or ha hb) fun σ H Q ⟨ρ, ts, R1, q⟩ => bindE R1 q fun s v ρ' H' R2 q2 => ?_
  split at q2
  · exact ⟨false, top_bl R2, ρ', ts, R2.pop, q2⟩
  · exact ⟨true, top_bl R2, fin_fz R2.pop (rep_bl _) q2⟩
  · exact q2.elim
def mIfE (t : M Bool) (m n : M SV) : M SV := t.bnd fun b => if b = true then m else n
theorem bindTE {m : M Bool} {f : Bool → M SV} {Q : VK} (r : R c σ ρ ts H) (h : PostE c W σ ts Q ((m.bnd f) ρ)) {Q' : Bool → Hp → Prop} (k : ∀ b ρ' H', R c σ ρ' ts H' → PostE c W σ ts Q (f b ρ') → Q' b H') : tDT c W m σ H Q' := by
  refine ⟨ρ, ts, r, ?_⟩
  cases e : m ρ with
  | none => rw [bnd_none e] at h; exact h
  | some x =>
    cases x with
    | er x ρ' => rw [bnd_er e] at h; exact h
    | ok b ρ' => rw [bnd_some e] at h; exact fun H' r' => k b ρ' H' r' h
theorem pd_ifE {t a b : Expr} {mt : M Bool} {m n : M SV} {pos : Pos} (ht : PT X t (tDT c W mt)) (ha : PE X a (tDE c W m)) (hb : PE X b (tDE c W n)) : PE X (.IfExp t a b pos) (tDE c W (mIfE mt m n)) := by
  refine pe_imp (pe_ifExp ht ha hb) fun σ H Q ⟨ρ, ts, R1, q⟩ => bindTE R1 q fun b ρ' H' R2 q2 => ?_
  cases b with
  | true => exact ⟨ρ', ts, R2, q2⟩
  | false => exact ⟨ρ', ts, R2, q2⟩

/-! ### displays -/
def mTup (ma : M (List SV)) : M SV := ma.bnd fun ss => (escs ss).bnd fun ds => fun ρ => if ds.length ≤ sizeLine then some (.ok (.fz (.tup ds)) ρ) else none
def mLst (ma : M (List SV)) : M SV := ma.bnd fun ss => (escs ss).bnd fun ds => fun ρ => if ds.length ≤ sizeLine then some (.ok (.own (.lst ds)) ρ) else none
theorem pd_tup {es : List Expr} {ma : M (List SV)} {x1} {pos : Pos} (ha : PA X es (tDA c W ma)) : PE X (.Tuple es x1 pos) (tDE c W (mTup ma)) := by
  refine pe_imp (pe_tup ha) fun σ H Q ⟨ρ, ts, R1, q⟩ => bindA (α := Unit) R1 q fun svs vs ρ1 H1 hl R2 q1 => ?_
  cases e : escs svs ρ1 with
  | none => rw [bnd_none e] at q1; exact q1.elim
  | some x =>
    cases x with
    | er x _ => exact absurd e escs_er
    | ok ds ρ2 =>
      rw [bnd_some e] at q1
      obtain ⟨R3, r⟩ := r_escs R2 hl e
      split at q1
      · rename_i hz
        exact ⟨by rw [r.length]; exact hz, fun p hp => fin_tup R3 r hp q1⟩
      · exact q1.elim
theorem pd_lst {es : List Expr} {ma : M (List SV)} {pos : Pos} (ha : PA X es (tDA c W ma)) : PE X (.List es pos) (tDE c W (mLst ma)) := by
  refine pe_imp (pe_lst ha) fun σ H Q ⟨ρ, ts, R1, q⟩ => bindA (α := Unit) R1 q fun svs vs ρ1 H1 hl R2 q1 => ?_
  cases e : escs svs ρ1 with
  | none => rw [bnd_none e] at q1; exact q1.elim
  | some x =>
    cases x with
    | er x _ => exact absurd e escs_er
    | ok ds ρ2 =>
      rw [bnd_some e] at q1
      obtain ⟨R3, r⟩ := r_escs R2 hl e
      split at q1
      · rename_i hz
        exact ⟨by rw [r.length]; exact hz, fun p hp => fin_new R3 r hp q1⟩
      · exact q1.elim
end
end DL

set_option Elab.async false
set_option linter.all false
set_option maxRecDepth 100000
/-! The data layer: built-ins, statements, a def's body. -/
namespace DL
open PySem PySem.Spec PyProof.Rows L2
section
variable {K : PySem.W.Frag} {X : Cx} {A : Addr → Prop} {H : Hp} {ds : List D} {d e : D} {vs : List V} {v : V}
theorem repRL1 (h : RepRL K A H [d] vs) : ∃ v, vs = [v] ∧ RepR K A H d v := by
  obtain ⟨v, vs', rfl, r, rs⟩ := h
  cases (show vs' = [] from rs)
  exact ⟨v, rfl, r⟩
theorem repRL2 (h : RepRL K A H [d, e] vs) : ∃ v u, vs = [v, u] ∧ RepR K A H d v ∧ RepR K A H e u := by
  obtain ⟨v, vs', rfl, r, rs⟩ := h
  obtain ⟨u, rfl, q⟩ := repRL1 rs
  exact ⟨v, u, rfl, r, q⟩
def fLen : List D → Option BR
  | [.lst ds] => some (.imm (.int ds.length))
  | [.tup ds] => some (.imm (.int ds.length))
  | [.seq ds] => some (.imm (.int ds.length))
  | [.str z] => if z.length ≤ sizeLine then some (.imm (.int z.length)) else none
  | _ => none
theorem callB_len : CallB K (fun xs H Q => ∃ x n, xs = [x] ∧ LenV K x H n ∧ Q (.int n) H) fLen := by
  intro A H ds vs b Q h e q
  unfold fLen at e
  split at e
  · cases e
    obtain ⟨v, rfl, r⟩ := repRL1 h
    obtain ⟨a, us, rfl, e2, r⟩ := repR_lst r
    exact ⟨_, us.length, rfl, .inl ⟨us, SqL.of e2, rfl⟩, by rw [r.length]; exact q _ (rep_int _)⟩
  · cases e
    obtain ⟨v, rfl, r⟩ := repRL1 h
    obtain ⟨a, us, rfl, e2, r⟩ := repR_tup r
    exact ⟨_, us.length, rfl, .inr ⟨us, e2, rfl⟩, by rw [r.length]; exact q _ (rep_int _)⟩
  · cases e
    obtain ⟨v, rfl, r⟩ := repRL1 h
    obtain ⟨a, us, rfl, e2, r⟩ := repR_seq r
    exact ⟨_, us.length, rfl, .inl ⟨us, e2.sq, rfl⟩, by rw [r.length]; exact q _ (rep_int _)⟩
  · split at e
    · rename_i z hz
      cases e
      obtain ⟨v, rfl, r⟩ := repRL1 h
      rw [repR_str r]
      exact ⟨_, z.length, rfl, ⟨hz, rfl⟩, q _ (rep_int _)⟩
    · cases e
  · cases e
def fInt : List D → Option BR
  | [.int i] => some (.imm (.int i))
  | [.bl b] => some (.imm (.int (if b then 1 else 0)))
  | _ => none
theorem callB_int : CallB K (fun xs H Q => (∃ i, xs = [.int i] ∧ Q (.int i) H) ∨ ∃ k, xs = [.bl k] ∧ Q (.int (if k then 1 else 0)) H) fInt := by
  intro A H ds vs b Q h e q
  unfold fInt at e
  split at e
  · cases e
    obtain ⟨v, rfl, r⟩ := repRL1 h
    rw [repR_int r]
    exact .inl ⟨_, rfl, q _ (rep_int _)⟩
  · cases e
    obtain ⟨v, rfl, r⟩ := repRL1 h
    rw [repR_bl r]
    exact .inr ⟨_, rfl, q _ (rep_int _)⟩
  · cases e
def fAbs : List D → Option BR
  | [.int i] => some (.imm (.int (if i < 0 then -i else i)))
  | _ => none
theorem callB_abs : CallB K (fun xs H Q => ∃ i, xs = [.int i] ∧ Q (.int (if i < 0 then -i else i)) H) fAbs := by
  intro A H ds vs b Q h e q
  unfold fAbs at e
  split at e
  · cases e
    obtain ⟨v, rfl, r⟩ := repRL1 h
    rw [repR_int r]
    exact ⟨_, rfl, q _ (rep_int _)⟩
  · cases e
def fMax : List D → Option BR
  | [.int i, .int j] => some (.imm (.int (if j > i then j else i)))
  | [.lst ds] => match intsOf ds with
    | some ns => ns.max?.map fun m => .imm (.int m)
    | none => none
  | _ => none
def fMin : List D → Option BR
  | [.int i, .int j] => some (.imm (.int (if j < i then j else i)))
  | [.lst ds] => match intsOf ds with
    | some ns => ns.min?.map fun m => .imm (.int m)
    | none => none
  | _ => none
def rMax' (K : PySem.W.Frag) : List V → Hp → VK → Prop := fun xs H Q => (∃ i j, xs = [.int i, .int j] ∧ Q (.int (if j > i then j else i)) H) ∨ rMax K xs H Q
def rMin' (K : PySem.W.Frag) : List V → Hp → VK → Prop := fun xs H Q => (∃ i j, xs = [.int i, .int j] ∧ Q (.int (if j < i then j else i)) H) ∨ rMin K xs H Q
theorem call_max' (hc : X.calm = true) : CallR X (.builtin "max") (rMax' X.K) := CallR.or (call_max2 hc) (cr_max hc)
theorem call_min' (hc : X.calm = true) : CallR X (.builtin "min") (rMin' X.K) := CallR.or (call_min2 hc) (cr_min hc)
theorem callB_max : CallB K (rMax' K) fMax := by
  intro A H ds vs b Q h e q
  unfold fMax at e
  split at e
  · cases e
    obtain ⟨v, u, rfl, r1, r2⟩ := repRL2 h
    rw [repR_int r1, repR_int r2]
    exact .inl ⟨_, _, rfl, q _ (rep_int _)⟩
  · split at e
    · rename_i ns en
      rw [Option.map_eq_some_iff] at e
      obtain ⟨m, em, rfl⟩ := e
      obtain ⟨v, rfl, r⟩ := repRL1 h
      obtain ⟨a, us, rfl, e2, r⟩ := repR_lst r
      have := intsOf_vs en r
      subst this
      have hm := List.max?_eq_some_iff.mp em
      refine .inr ⟨a, ns, rfl, SqL.of e2, List.length_pos_of_mem hm.1, fun m' h1 h2 => ?_⟩
      have : m' = m := Int.le_antisymm (hm.2 m' h1) (h2 m hm.1)
      rw [this]
      exact q _ (rep_int _)
    · cases e
  · cases e
theorem callB_min : CallB K (rMin' K) fMin := by
  intro A H ds vs b Q h e q
  unfold fMin at e
  split at e
  · cases e
    obtain ⟨v, u, rfl, r1, r2⟩ := repRL2 h
    rw [repR_int r1, repR_int r2]
    exact .inl ⟨_, _, rfl, q _ (rep_int _)⟩
  · split at e
    · rename_i ns en
      rw [Option.map_eq_some_iff] at e
      obtain ⟨m, em, rfl⟩ := e
      obtain ⟨v, rfl, r⟩ := repRL1 h
      obtain ⟨a, us, rfl, e2, r⟩ := repR_lst r
      have := intsOf_vs en r
      subst this
      have hm := List.min?_eq_some_iff.mp em
      refine .inr ⟨a, ns, rfl, SqL.of e2, List.length_pos_of_mem hm.1, fun m' h1 h2 => ?_⟩
      have : m' = m := Int.le_antisymm (h2 m hm.1) (hm.2 m' h1)
      rw [this]
      exact q _ (rep_int _)
    · cases e
  · cases e
def fList : List D → Option BR
  | [.lst ds] => some (.newL ds)
  | [.tup ds] => some (.newL ds)
  | [.seq ds] => some (.newL ds)
  | _ => none
theorem callB_list : CallB K (fun xs H Q => ∃ p ys, xs = [.ref p] ∧ (SqL K H p ys ∨ SqT K H p ys) ∧ ∀ l, H l = none → Q (.ref l) (upd H l (.lst ys))) fList := by
  intro A H ds vs b Q h e q
  unfold fList at e
  split at e
  · cases e
    obtain ⟨v, rfl, r⟩ := repRL1 h
    obtain ⟨a, us, rfl, e2, r⟩ := repR_lst r
    exact ⟨a, us, rfl, .inl (SqL.of e2), fun p hp => q _ p r hp⟩
  · cases e
    obtain ⟨v, rfl, r⟩ := repRL1 h
    obtain ⟨a, us, rfl, e2, r⟩ := repR_tup r
    exact ⟨a, us, rfl, .inr e2, fun p hp => q _ p r hp⟩
  · cases e
    obtain ⟨v, rfl, r⟩ := repRL1 h
    obtain ⟨a, us, rfl, e2, r⟩ := repR_seq r
    exact ⟨a, us, rfl, .inl e2.sq, fun p hp => q _ p r hp⟩
  · cases e
def fTuple : List D → Option BR
  | [.lst ds] => some (.newT ds)
  | [.tup ds] => some (.imm (.tup ds))
  | [.seq ds] => some (.newT ds)
  | _ => none
theorem callB_tuple : CallB K (fun xs H Q => ∃ p ys, xs = [.ref p] ∧ ((SqL K H p ys ∧ ∀ l, H l = none → Q (.ref l) (upd H l (.tup ys))) ∨ (SqT K H p ys ∧ Q (.ref p) H))) fTuple := by
  intro A H ds vs b Q h e q
  unfold fTuple at e
  split at e
  · cases e
    obtain ⟨v, rfl, r⟩ := repRL1 h
    obtain ⟨a, us, rfl, e2, r⟩ := repR_lst r
    exact ⟨a, us, rfl, .inl ⟨SqL.of e2, fun p hp => q _ p r hp⟩⟩
  · cases e
    obtain ⟨v, rfl, r⟩ := repRL1 h
    obtain ⟨a, us, rfl, e2, r⟩ := repR_tup r
    exact ⟨a, us, rfl, .inr ⟨e2, q _ (rep_tup e2 r)⟩⟩
  · cases e
    obtain ⟨v, rfl, r⟩ := repRL1 h
    obtain ⟨a, us, rfl, e2, r⟩ := repR_seq r
    exact ⟨a, us, rfl, .inl ⟨e2.sq, fun p hp => q _ p r hp⟩⟩
  · cases e
def sortI (ns : List Int) : List Int := ns.mergeSort fun a b => decide (a ≤ b)
theorem sortI_perm (ns : List Int) : (sortI ns).Perm ns := List.mergeSort_perm _ _
theorem sortI_le (ns : List Int) : (sortI ns).Pairwise (· ≤ ·) := by
  have := List.pairwise_mergeSort (le := fun (a b : Int) => decide (a ≤ b)) (fun a b c h1 h2 => by simp at h1 h2 ⊢; omega) (fun a b => by simp; omega) ns
  exact this.imp fun h => by simpa using h
def fSorted : List D → Option BR
  | [.lst ds] => (intsOf ds).map fun ns => .newL ((sortI ns).map .int)
  | _ => none
theorem callB_sorted : CallB K (rSortedI K) fSorted := by
  intro A H ds vs b Q h e q
  unfold fSorted at e
  split at e
  · rw [Option.map_eq_some_iff] at e
    obtain ⟨ns, en, rfl⟩ := e
    obtain ⟨v, rfl, r⟩ := repRL1 h
    obtain ⟨a, us, rfl, e2, r⟩ := repR_lst r
    have := intsOf_vs en r
    subst this
    refine ⟨a, ns, rfl, SqL.of e2, fun ns' p hp hs hn => ?_⟩
    have : ns' = sortI ns := PySem.W.ksm_same (hp.trans (sortI_perm ns).symm) hs (sortI_le ns)
    rw [this]
    exact q _ p intsOf_rep hn
  · cases e
def fSum : List D → Option BR
  | [.lst ds] => (intsOf ds).map fun ns => .imm (.int ns.sum)
  | _ => none
theorem callB_sum : CallB K (rSum K) fSum := by
  intro A H ds vs b Q h e q
  unfold fSum at e
  split at e
  · rw [Option.map_eq_some_iff] at e
    obtain ⟨ns, en, rfl⟩ := e
    obtain ⟨v, rfl, r⟩ := repRL1 h
    obtain ⟨a, us, rfl, e2, r⟩ := repR_lst r
    have := intsOf_vs en r
    subst this
    exact ⟨a, ns, rfl, SqL.of e2, q _ (rep_int _)⟩
  · cases e
def blsOf : List D → Option (List Bool)
  | [] => some []
  | .bl b :: ds => (blsOf ds).map (b :: ·)
  | _ => none
theorem blsOf_map (bs : List Bool) : blsOf (bs.map D.bl) = some bs := by
  induction bs with
  | nil => rfl
  | cons n ns ih => simp [blsOf, ih]
theorem blsOf_vs : ∀ {ds : List D} {ns : List Bool} {vs : List V}, blsOf ds = some ns → RepL K A H ds vs → vs = ns.map V.bl
  | [], ns, vs, h, r => by simp only [blsOf, Option.some.injEq] at h; subst h; simp only [RepL] at r; subst r; rfl
  | .bl i :: ds, ns, vs, h, r => by
    simp only [blsOf, Option.map_eq_some_iff] at h
    obtain ⟨ms, e, rfl⟩ := h
    simp only [RepL] at r
    obtain ⟨v, vs', rfl, r, rs⟩ := r
    simp only [Rep] at r
    rw [r, blsOf_vs e rs]; rfl
  | .non :: _, _, _, h, _ => by simp [blsOf] at h
  | .int _ :: _, _, _, h, _ => by simp [blsOf] at h
  | .str _ :: _, _, _, h, _ => by simp [blsOf] at h
  | .tup _ :: _, _, _, h, _ => by simp [blsOf] at h
  | .lst _ :: _, _, _, h, _ => by simp [blsOf] at h
  | .seq _ :: _, _, _, h, _ => by simp [blsOf] at h
  | .obj _ _ _ :: _, _, _, h, _ => by simp [blsOf] at h
def fAll : List D → Option BR
  | [.lst ds] => (blsOf ds).map fun bs => .imm (.bl (bs.all id))
  | _ => none
def fAny : List D → Option BR
  | [.lst ds] => (blsOf ds).map fun bs => .imm (.bl (bs.any id))
  | _ => none
theorem callB_all : CallB K (rAll K) fAll := by
  intro A H ds vs b Q h e q
  unfold fAll at e
  split at e
  · rw [Option.map_eq_some_iff] at e
    obtain ⟨ns, en, rfl⟩ := e
    obtain ⟨v, rfl, r⟩ := repRL1 h
    obtain ⟨a, us, rfl, e2, r⟩ := repR_lst r
    have := blsOf_vs en r
    subst this
    exact ⟨a, ns, rfl, SqL.of e2, q _ (rep_bl _)⟩
  · cases e
theorem callB_any : CallB K (rAny K) fAny := by
  intro A H ds vs b Q h e q
  unfold fAny at e
  split at e
  · rw [Option.map_eq_some_iff] at e
    obtain ⟨ns, en, rfl⟩ := e
    obtain ⟨v, rfl, r⟩ := repRL1 h
    obtain ⟨a, us, rfl, e2, r⟩ := repR_lst r
    have := blsOf_vs en r
    subst this
    exact ⟨a, ns, rfl, SqL.of e2, q _ (rep_bl _)⟩
  · cases e

/-! isinstance -/
inductive Ty where | non | bl | int | str | lst | tup | dic | set
  deriving DecidableEq
def Ty.name : Ty → String
  | .non => "NoneType" | .bl => "bool" | .int => "int" | .str => "str" | .lst => "list" | .tup => "tuple" | .dic => "dict" | .set => "set"
def tyD : D → Option Ty
  | .non => some .non | .bl _ => some .bl | .int _ => some .int | .str _ => some .str | .lst _ => some .lst | .seq _ => some .lst | .tup _ => some .tup | .obj _ _ _ => none
def isT : Ty → Ty → Bool
  | .bl, .int => true
  | .non, .non => true | .bl, .bl => true | .int, .int => true | .str, .str => true | .lst, .lst => true | .tup, .tup => true | .dic, .dic => true | .set, .set => true
  | _, _ => false
theorem kitB_isT : ∀ a b : Ty, kitB a.name b.name = some (isT a b) := by
  intro a b
  cases a <;> cases b <;> decide +kernel
theorem tyX_of {t : Ty} (h : RepR K A H d v) (e : tyD d = some t) : TyX K H v (.type t.name) := by
  cases d with
  | non => rw [repR_non h]; cases e; exact .base .non
  | bl b => rw [repR_bl h]; cases e; exact .base (.bl b)
  | int b => rw [repR_int h]; cases e; exact .base (.int b)
  | str b => rw [repR_str h]; cases e; exact .base (.str b)
  | tup ds =>
    obtain ⟨a, vs, rfl, q, r⟩ := repR_tup h
    cases e
    rcases q with (q | ⟨o, q⟩) | ⟨o, its, n, k1, k2, _⟩
    · exact .base (.tup q)
    · exact .fTuple q
    · exact .kTuple k1 k2
  | lst ds =>
    obtain ⟨a, vs, rfl, q, r⟩ := repR_lst h
    cases e
    exact .base (.lst q)
  | seq ds =>
    obtain ⟨a, vs, rfl, q, r⟩ := repR_seq h
    cases e
    rcases q with ⟨o, q⟩ | ⟨o, its, n, k1, k2, _⟩
    · exact .base (.frz q)
    · exact .kList k1 k2
  | obj _ _ _ => cases e
variable {c : Fc} {W : WX} {σ : L2.St} {ρ : List SV} {ts : Ts} {H' : Hp} {sv : SV} {p : Addr} {i : Nat}
def mIsi (Ts : List Ty) (m : M SV) : M SV := m.bnd fun s => fun ρ => match con ρ s with
  | some d => match tyD d with
    | some t => some (.ok (.fz (.bl (Ts.any (isT t)))) ρ)
    | none => none
  | none => none
theorem pd_isi1 {e e2 : Expr} {m : M SV} {T : Ty} {x : Str} {p' pos : Pos} (he : PE X e (tDE c W m)) (h2 : PE X e2 (tC (.ty T.name))) (hg : Gl X x) (hm : X.mg x = none) (hv : bootBuiltins x = some (.builtin "isinstance")) (hK : c.K = X.K := by rfl)
    (hdb : (x == ("__debug__" : Str)) = false := by decide) (hs : starEach [e, e2] X.env = (false, eval e X.env) :: starEach [e2] X.env := by rfl) (hs2 : starEach [e2] X.env = (false, eval e2 X.env) :: starEach [] X.env := by rfl)
    (h : ∀ t, PA X [e, e2] t → PE X (.Call (.Name x p') [e, e2] [] pos) (tCB (rIsi X.K) t)) : PE X (.Call (.Name x p') [e, e2] [] pos) (tDE c W (mIsi [T] m)) := by
  refine pe_imp (h _ (pa_cons he (pa_cons h2 pa_nil hs2) hs)) fun σ H Q ⟨ρ, ts, R1, q⟩ => ?_
  refine bindE R1 q fun s v ρ1 H1 R2 q1 => ?_
  cases e1 : con ρ1 s with
  | none => rw [e1] at q1; exact q1.elim
  | some d =>
    rw [e1] at q1
    simp only at q1
    cases e2 : tyD d with
    | none => rw [e2] at q1; exact q1.elim
    | some t =>
      rw [e2] at q1
      refine ⟨v, .ty T.name, _, _, isT t T, rfl, .ty _, tyX_of (hK ▸ R2.con List.mem_cons_self e1) e2, kit_ty (kitB_isT t T), ?_⟩
      have q2 : PostE c W σ ts Q (some (.ok (.fz (.bl (isT t T))) ρ1)) := by simpa using q1
      exact fin_fz R2.pop (rep_bl _) q2
theorem kitAny_isT (t : Ty) : ∀ Ts : List Ty, PySem.W.kitAny K (.type t.name) (Ts.map fun T => Value.type T.name) = some (Ts.any (isT t))
  | [] => kitAny_nil
  | T :: Ts => by
    refine kitAny_cons (kit_ty (kitB_isT t T)) (fun e => ?_) fun e => by rw [List.any_cons, e]; rfl
    rw [List.any_cons, e, Bool.false_or]
    exact kitAny_isT t Ts
theorem clsV_tys : ∀ Ts : List Ty, Paired ClsV (Ts.map fun T => V.ty T.name) (Ts.map fun T => Value.type T.name)
  | [] => .nil
  | T :: Ts => .cons (.ty _) (clsV_tys Ts)
theorem pd_isiT {e : Expr} {es : List Expr} {m : M SV} {T1 T2 : Ty} {x : Str} {p' pos tpos : Pos} {x1} (he : PE X e (tDE c W m)) (h2 : PA X es (tCons (tC (.ty T1.name)) (tCons (tC (.ty T2.name)) tNil))) (hK : c.K = X.K := by rfl)
    (hs : starEach [e, .Tuple es x1 tpos] X.env = (false, eval e X.env) :: starEach [.Tuple es x1 tpos] X.env := by rfl) (hs2 : starEach [.Tuple es x1 tpos] X.env = (false, eval (.Tuple es x1 tpos) X.env) :: starEach [] X.env := by rfl)
    (h : ∀ t, PA X [e, .Tuple es x1 tpos] t → PE X (.Call (.Name x p') [e, .Tuple es x1 tpos] [] pos) (tCB (rIsiT X.K) t)) : PE X (.Call (.Name x p') [e, .Tuple es x1 tpos] [] pos) (tDE c W (mIsi [T1, T2] m)) := by
  refine pe_imp (h _ (pa_cons he (pa_cons (pe_tup h2) pa_nil hs2) hs)) fun σ H Q ⟨ρ, ts, R1, q⟩ => ?_
  refine bindE R1 q fun s v ρ1 H1 R2 q1 => ?_
  cases e1 : con ρ1 s with
  | none => rw [e1] at q1; exact q1.elim
  | some d =>
    rw [e1] at q1
    simp only at q1
    cases e2 : tyD d with
    | none => rw [e2] at q1; exact q1.elim
    | some t =>
      rw [e2] at q1
      refine ⟨by rw [sizeLine_eq]; show 2 ≤ 16777216; decide, fun tp htp => ?_⟩
      have R3 := R2.ext (ext_new (o := .tup [.ty T1.name, .ty T2.name]) htp)
      refine ⟨v, tp, [.ty T1.name, .ty T2.name], _, _, _, rfl, upd_same, clsV_tys [T1, T2], tyX_of (hK ▸ R3.con List.mem_cons_self e1) e2, kitAny_isT t [T1, T2], ?_⟩
      exact fin_fz R3.pop (rep_bl _) q1
end
end DL

set_option Elab.async false
set_option linter.all false
set_option maxRecDepth 100000
/-! The data layer: statements, loops. -/
namespace DL
open PySem PySem.Spec PyProof.Rows L2

inductive SR where
  | nx (ρ : List SV) | rt (sv : SV) (ρ : List SV) | bk (ρ : List SV) | ct (ρ : List SV) | er (e : Ex) (ρ : List SV)
abbrev MS := List SV → Option SR
def PostS (c : Fc) (W : WX) (ts : Ts) (D : Ends) : Option SR → Prop
  | some (.nx ρ) => ∀ σ H, R c σ ρ ts H → D.nx σ H
  | some (.rt sv ρ) => ∀ σ v H, R c σ ρ ((sv, v) :: ts) H → D.rt v H
  | some (.bk ρ) => ∀ σ H, R c σ ρ ts H → D.bk σ H
  | some (.ct ρ) => ∀ σ H, R c σ ρ ts H → D.ct σ H
  | some (.er e ρ) => ∀ σ cls od H, R c σ ρ ts H → ExRep c.K (Avr c σ ρ ts) H e cls od → W cls od σ H
  | none => False
def tDS (c : Fc) (W : WX) (m : MS) : TS := fun D σ H => ∃ ρ ts, R c σ ρ ts H ∧ NoLoc ts ∧ PostS c W ts D (m ρ)
theorem ps_imp {X : Cx} {s : Stmt} {t t' : TS} (h : PS X s t) (hi : ∀ D σ H, t' D σ H → t D σ H) : PS X s t' := ⟨fun pins s σ H D I q => h.run pins s σ H D I (hi _ _ _ q)⟩
theorem pss_imp {X : Cx} {s : List Stmt} {t t' : TS} (h : PSs X s t) (hi : ∀ D σ H, t' D σ H → t D σ H) : PSs X s t' := ⟨fun pins s σ H D I q => h.run pins s σ H D I (hi _ _ _ q)⟩
def mSeq (a b : MS) : MS := fun ρ => match a ρ with
  | some (.nx ρ') => b ρ'
  | r => r
def mNext : MS := fun ρ => some (.nx ρ)
section
variable {c : Fc} {W : WX} {X : Cx} {σ : L2.St} {ρ : List SV} {ts : Ts} {H H' : Hp} {sv : SV} {d : D} {ds : List D} {v : V} {vs : List V} {p : Addr} {i : Nat} {Dn : Ends} {pos : Pos}
theorem pd_snil : PSs X [] (tDS c W mNext) := pss_imp pss_nil fun D σ H ⟨ρ, ts, r, n, q⟩ => q σ H r
theorem pd_scons {s : Stmt} {ss : List Stmt} {a b : MS} (h1 : PS X s (tDS c W a)) (h2 : PSs X ss (tDS c W b)) : PSs X (s :: ss) (tDS c W (mSeq a b)) := by
  refine pss_imp (pss_cons h1 h2) fun D σ H ⟨ρ, ts, r, n, q⟩ => ⟨ρ, ts, r, n, ?_⟩
  unfold mSeq at q
  cases e : a ρ with
  | none => rw [e] at q; exact q
  | some x =>
    rw [e] at q
    cases x with
    | nx ρ' => exact fun σ' H' r' => ⟨ρ', ts, r', n, q⟩
    | rt sv ρ' => exact q
    | bk ρ' => exact q
    | ct ρ' => exact q
    | er e ρ' => exact q
theorem pd_sone {s : Stmt} {a : MS} (h1 : PS X s (tDS c W a)) : PSs X [s] (tDS c W a) := pss_one h1
def mPass : MS := fun ρ => some (.nx ρ)
def mBrk : MS := fun ρ => some (.bk ρ)
def mCnt : MS := fun ρ => some (.ct ρ)
theorem pd_pass : PS X (.Pass pos) (tDS c W mPass) := ps_imp ps_pass fun D σ H ⟨ρ, ts, r, n, q⟩ => q σ H r
theorem pd_brk : PS X (.Break pos) (tDS c W mBrk) := ps_imp ps_break fun D σ H ⟨ρ, ts, r, n, q⟩ => q σ H r
theorem pd_cnt : PS X (.Continue pos) (tDS c W mCnt) := ps_imp ps_continue fun D σ H ⟨ρ, ts, r, n, q⟩ => q σ H r
theorem pd_doc {x j pos'} : PS X (.Expr (.Constant (.str x) j pos) pos') (tDS c W mPass) := ps_imp ps_doc fun D σ H ⟨ρ, ts, r, n, q⟩ => q σ H r
/-- an expression within a statement -/
def mE (m : M SV) (f : SV → MS) : MS := fun ρ => match m ρ with
  | some (.ok sv ρ') => f sv ρ'
  | some (.er e ρ') => some (.er e ρ')
  | none => none
theorem bindS {m : M SV} {f : SV → MS} (r : R c σ ρ ts H) (h : PostS c W ts Dn (mE m f ρ)) {Q' : VK} (k : ∀ sv v ρ' H', R c σ ρ' ((sv, v) :: ts) H' → PostS c W ts Dn (f sv ρ') → Q' v H') : tDE c W m σ H Q' := by
  refine ⟨ρ, ts, r, ?_⟩
  unfold mE at h
  cases e : m ρ with
  | none => rw [e] at h; exact h
  | some x =>
    rw [e] at h
    cases x with
    | er x ρ' => exact fun cls od H' r' z => h σ cls od H' r' z
    | ok sv ρ' => exact fun v H' r' => k sv v ρ' H' r' h
def mExpr (m : M SV) : MS := mE m fun _ ρ => some (.nx ρ)
theorem pd_expr {e : Expr} {m : M SV} (he : PE X e (tDE c W m)) (hs : swapsWith e none pos.line X.env = pure false := by rfl) : PS X (.Expr e pos) (tDS c W (mExpr m)) :=
  ps_imp (ps_expr he hs) fun D σ H ⟨ρ, ts, r, n, q⟩ => bindS r q fun sv v ρ' H' r' q' => q' σ H' r'.pop
def mRet (m : M SV) : MS := mE m fun sv ρ => some (.rt sv ρ)
def mRetN : MS := fun ρ => some (.rt (.fz .non) ρ)
theorem pd_ret {e : Expr} {m : M SV} (he : PE X e (tDE c W m)) : PS X (.Return (some e) pos) (tDS c W (mRet m)) :=
  ps_imp (ps_ret he) fun D σ H ⟨ρ, ts, r, n, q⟩ => bindS r q fun sv v ρ' H' r' q' => q' σ v H' r'
theorem pd_retN : PS X (.Return none pos) (tDS c W mRetN) := ps_imp ps_retN fun D σ H ⟨ρ, ts, r, n, q⟩ => q σ .non H (r.push_fz rep_non)
def mIf (t : M Bool) (a b : MS) : MS := fun ρ => match t ρ with
  | some (.ok bb ρ') => if bb = true then a ρ' else b ρ'
  | some (.er e ρ') => some (.er e ρ')
  | none => none
theorem pd_if {t : Expr} {a b : List Stmt} {mt : M Bool} {ma mb : MS} (ht : PT X t (tDT c W mt)) (ha : PSs X a (tDS c W ma)) (hb : PSs X b (tDS c W mb)) : PS X (.If t a b pos) (tDS c W (mIf mt ma mb)) := by
  refine ps_imp (ps_if ht ha hb) fun D σ H ⟨ρ, ts, r, n, q⟩ => ⟨ρ, ts, r, ?_⟩
  unfold mIf at q
  cases e : mt ρ with
  | none => rw [e] at q; exact q
  | some x =>
    rw [e] at q
    cases x with
    | er x ρ' => exact fun cls od H' r' z => q σ cls od H' r' z
    | ok bb ρ' =>
      intro H' r'
      cases bb with
      | true => exact ⟨ρ', ts, r', n, q⟩
      | false => exact ⟨ρ', ts, r', n, q⟩
/-! ### targets -/
/-- a value is stored at slot i -/
def sto (i : Nat) (sv : SV) : List SV → Option (List SV) := fun ρ => if i < ρ.length then (match sv with
    | .fz d => some (ρ.set i (.fz d))
    | .own d => some (ρ.set i (.own d))
    | .loc j => match ρ[j]? with
      | some (.own d) => some ((ρ.set j (.fz d)).set i (.fz d))
      | some (.fz d) => some (ρ.set i (.fz d))
      | _ => none
    | .un => none) else none
theorem r_sto {ρ' : List SV} (r : R c σ ρ ((sv, v) :: ts) H) (n : NoLoc ts) (hp : c.pin i = none) (h : sto i sv ρ = some ρ') : R c (σ.set i (some v)) ρ' ts H := by
  unfold sto at h
  split at h
  · rename_i hi
    have hi' : i < σ.length := by rw [← r.len]; exact hi
    have nl : ∀ {s : SV}, (∀ j, s ≠ .loc j) → NoLoc ((s, v) :: ts) := fun hs j u hm => by
      rcases List.mem_cons.mp hm with z | z
      · cases z; exact hs j rfl
      · exact n j u z
    cases sv with
    | un => cases h
    | fz d => cases h; exact r.store (nl fun j z => by cases z) hi' hp
    | own d => cases h; exact r.store (nl fun j z => by cases z) hi' hp
    | loc j =>
      simp only at h
      split at h
      · rename_i d e
        cases h
        have hl : j < ρ.length := (List.getElem?_eq_some_iff.mp e).1
        exact ((r.demote e).loc_fz (d := d) (by simp [hl])).store (nl fun j z => by cases z) hi' hp
      · rename_i d e
        cases h
        exact (r.loc_fz e).store (nl fun j z => by cases z) hi' hp
      · cases h
  · cases h
def mTo (g : SV → List SV → Option (List SV)) (m : M SV) : MS := mE m fun sv ρ => (g sv ρ).map .nx
abbrev mSet (i : Nat) (m : M SV) : MS := mTo (sto i) m
theorem pd_set {i : Nat} {x : Str} {e : Expr} {m : M SV} {pos' : Pos} (he : PE X e (tDE c W m)) (h : ∀ t, PE X e t → PS X (.Assign [.Name x pos'] e pos) (tAsg t (gName i))) (hp : c.pin i = none := by rfl) : PS X (.Assign [.Name x pos'] e pos) (tDS c W (mSet i m)) := by
  refine ps_imp (h _ he) fun D σ H ⟨ρ, ts, r, n, q⟩ => bindS r q fun sv v ρ' H' r' q' => ?_
  cases e : sto i sv ρ' with
  | none => rw [e] at q'; exact q'.elim
  | some ρ2 =>
    rw [e] at q'
    exact q' _ _ (r_sto r' n hp e)
/-- targets in general -/
def tDG (c : Fc) (g : SV → List SV → Option (List SV)) : TG := fun v σ H Q => ∃ ρ ts sv, R c σ ρ ((sv, v) :: ts) H ∧ NoLoc ts ∧ match g sv ρ with
  | some ρ' => ∀ σ' H', R c σ' ρ' ts H' → Q σ' H'
  | none => False
def tDGs (c : Fc) (g : List D → List SV → Option (List SV)) : TGs := fun vs σ H Q => ∃ ρ ts ds, R c σ ρ ts H ∧ NoLoc ts ∧ RepL c.K (Avr c σ ρ ts) H ds vs ∧ match g ds ρ with
  | some ρ' => ∀ σ' H', R c σ' ρ' ts H' → Q σ' H'
  | none => False
theorem pg_imp {e : Expr} {t t' : TG} (h : PG X e t) (hi : ∀ v σ H Q, t' v σ H Q → t v σ H Q) : PG X e t' := ⟨fun pins s σ H v u Q I r q => h.run pins s σ H v u Q I r (hi _ _ _ _ q)⟩
theorem pgs_imp {es : List Expr} {t t' : TGs} (h : PGs X es t) (hi : ∀ v σ H Q, t' v σ H Q → t v σ H Q) : PGs X es t' := ⟨fun pins s σ H v u Q I r q => h.run pins s σ H v u Q I r (hi _ _ _ _ q)⟩
theorem pg_or {e : Expr} {t t' : TG} (h : PG X e t) (h' : PG X e t') : PG X e (fun v σ H Q => t v σ H Q ∨ t' v σ H Q) := ⟨fun pins s σ H v u Q I r q => q.elim (h.run pins s σ H v u Q I r) (h'.run pins s σ H v u Q I r)⟩
theorem pd_gname {i : Nat} {x : Str} (h : PG X (.Name x pos) (gName i)) (hp : c.pin i = none := by rfl) : PG X (.Name x pos) (tDG c (sto i)) := by
  refine pg_imp h fun v σ H Q ⟨ρ, ts, sv, r, n, q⟩ => ?_
  cases e : sto i sv ρ with
  | none => rw [e] at q; exact q.elim
  | some ρ' =>
    rw [e] at q
    exact q _ _ (r_sto r n hp e)
def gsNil (ds : List D) (ρ : List SV) : Option (List SV) := match ds with
  | [] => some ρ
  | _ => none
def gsCons (g : SV → List SV → Option (List SV)) (gs : List D → List SV → Option (List SV)) (ds : List D) (ρ : List SV) : Option (List SV) := match ds with
  | d :: ds => match g (.fz d) ρ with
    | some ρ' => gs ds ρ'
    | none => none
  | [] => none
theorem pd_gsnil : PGs X [] (tDGs c gsNil) := by
  refine pgs_imp pgs_nil fun v σ H Q ⟨ρ, ts, ds, r, n, rl, q⟩ => ?_
  cases ds with
  | nil => simp only [RepL] at rl; exact ⟨rl, q σ H r⟩
  | cons _ _ => exact q.elim
theorem tsP_fz {ds : List D} {vs : List V} : Own (tsP ((ds.map SV.fz).zip vs)) = [] := own_fz ds vs
theorem r_pushs : ∀ {ds : List D} {vs : List V}, R c σ ρ ts H → RepL c.K (Avr c σ ρ ts) H ds vs → R c σ ρ ((ds.map SV.fz).zip vs ++ ts) H
  | [], vs, r, h => by simp only [RepL] at h; subst h; exact r
  | d :: ds, vs, r, h => by
    simp only [RepL] at h
    obtain ⟨v, vs', rfl, q, qs⟩ := h
    have r2 := r_pushs r qs
    refine R.push_fz r2 ?_
    have : Avr c σ ρ ((ds.map SV.fz).zip vs' ++ ts) = Avr c σ ρ ts := by
      funext a
      unfold Avr Av
      rw [tsP_append, List.append_assoc, own_append, tsP_fz]
      rfl
    show Rep c.K (Avr c σ ρ ((ds.map SV.fz).zip vs' ++ ts)) H d v
    rw [this]; exact q
theorem r_pulls : ∀ {ds : List D} {vs : List V}, ds.length = vs.length → R c σ ρ ((ds.map SV.fz).zip vs ++ ts) H → R c σ ρ ts H ∧ RepL c.K (Avr c σ ρ ts) H ds vs
  | [], vs, hl, r => by
    cases vs with
    | nil => exact ⟨r, RepL.nil⟩
    | cons _ _ => cases hl
  | d :: ds, vs, hl, r => by
    cases vs with
    | nil => cases hl
    | cons v vs =>
    have q := R.top_fz (ts := (ds.map SV.fz).zip vs ++ ts) r
    obtain ⟨r2, qs⟩ := r_pulls (by simpa using hl) r.pop
    refine ⟨r2, RepL.cons ?_ qs⟩
    refine q.less fun a y => .inl (y.imp id fun z => ?_)
    rw [tsP_append, List.append_assoc, own_append]
    exact List.mem_append_right _ z
theorem noLoc_fz {ds : List D} {vs : List V} (n : NoLoc ts) : NoLoc ((ds.map SV.fz).zip vs ++ ts) := fun i v h => by
  rcases List.mem_append.mp h with z | z
  · have := (List.of_mem_zip z).1
    simp at this
  · exact n i v z
theorem pd_gscons {e : Expr} {es : List Expr} {g : SV → List SV → Option (List SV)} {gs : List D → List SV → Option (List SV)} (h1 : PG X e (tDG c g)) (h2 : PGs X es (tDGs c gs))
    (hs : (assignEach (e :: es) X.env).map (·.2) = assign e X.env :: (assignEach es X.env).map (·.2) := by rfl) : PGs X (e :: es) (tDGs c (gsCons g gs)) := by
  refine pgs_imp (pgs_cons h1 h2 hs) fun vs σ H Q ⟨ρ, ts, ds, r, n, rl, q⟩ => ?_
  cases ds with
  | nil => exact q.elim
  | cons d ds =>
    have r2 := r_pushs r rl
    have hl := rl.length
    simp only [RepL] at rl
    obtain ⟨v, vs', rfl, q1, qs⟩ := rl
    refine ⟨v, vs', rfl, ρ, (ds.map SV.fz).zip vs' ++ ts, .fz d, r2, noLoc_fz n, ?_⟩
    simp only [gsCons] at q
    cases e : g (.fz d) ρ with
    | none => rw [e] at q; exact q.elim
    | some ρ' =>
      rw [e] at q
      intro σ' H' r'
      obtain ⟨r3, q3⟩ := r_pulls (by simp at hl; exact hl.symm) r'
      exact ⟨ρ', ts, ds, r3, n, q3, q⟩
def gTupD (k : Nat) (gs : List D → List SV → Option (List SV)) (sv : SV) (ρ : List SV) : Option (List SV) := match esc sv ρ with
  | some (.ok d ρ') => match d with
    | .tup ds => if ds.length = k then gs ds ρ' else none
    | .lst ds => if ds.length = k then gs ds ρ' else none
    | .seq ds => if ds.length = k then gs ds ρ' else none
    | _ => none
  | _ => none
theorem pd_gtup {es : List Expr} {k : Nat} {gs : List D → List SV → Option (List SV)} {n : Nat} (hc : X.calm = true) (h : PGs X es (tDGs c gs)) (hK : c.K = X.K := by rfl)
    (hn : (assignEach es X.env).length = n := by rfl) (hst : (assignEach es X.env).findIdx? (·.1) = none := by rfl) : PG X (.Tuple es k pos) (tDG c (gTupD n gs)) := by
  refine pg_imp (pg_or (pg_tup hc h hn hst) (pg_lst hc h hn hst)) fun v σ H Q ⟨ρ, ts, sv, r, nl, q⟩ => ?_
  unfold gTupD at q
  cases e : esc sv ρ with
  | none => rw [e] at q; exact q.elim
  | some x =>
    cases x with
    | er x _ => exact absurd e esc_er
    | ok d ρ' =>
      rw [e] at q
      have r' := r_esc r e
      have t := r'.top_fz
      have fin : ∀ {ds : List D}, (match (if ds.length = n then gs ds ρ' else none) with
          | some ρ' => ∀ σ' H', R c σ' ρ' ts H' → Q σ' H'
          | none => False) → ds.length = n ∧ match gs ds ρ' with
          | some ρ' => ∀ σ' H', R c σ' ρ' ts H' → Q σ' H'
          | none => False := fun {ds} z => by
        by_cases hl : ds.length = n
        · rw [if_pos hl] at z; exact ⟨hl, z⟩
        · rw [if_neg hl] at z; exact z.elim
      cases d with
      | tup ds =>
        obtain ⟨hl, q⟩ := fin q
        simp only [Rep] at t
        obtain ⟨a, vs, rfl, e2, rl⟩ := t
        exact .inl ⟨a, vs, rfl, hK ▸ e2, by rw [rl.length]; exact hl, ρ', ts, ds, r'.pop, nl, rl, q⟩
      | lst ds =>
        obtain ⟨hl, q⟩ := fin q
        simp only [Rep] at t
        obtain ⟨a, vs, rfl, e2, rl⟩ := t
        exact .inr ⟨a, vs, rfl, SqL.of e2.1, by rw [rl.length]; exact hl, ρ', ts, ds, r'.pop, nl, rl, q⟩
      | seq ds =>
        obtain ⟨hl, q⟩ := fin q
        simp only [Rep] at t
        obtain ⟨a, vs, rfl, e2, rl⟩ := t
        exact .inr ⟨a, vs, rfl, hK ▸ e2.sq, by rw [rl.length]; exact hl, ρ', ts, ds, r'.pop, nl, rl, q⟩
      | _ => exact q.elim
theorem pd_asg {tg e : Expr} {m : M SV} {g : SV → List SV → Option (List SV)} (he : PE X e (tDE c W m)) (hg : PG X tg (tDG c g)) (hs : swapsWithSole [tg] e pos.line X.env = pure false := by rfl) (hw : swappedStores [tg] e X.env = pure none := by rfl)
    (h1 : (assignEach [tg] X.env).map (·.2) = [assign tg X.env] := by rfl) : PS X (.Assign [tg] e pos) (tDS c W (mTo g m)) := by
  refine ps_imp (ps_asg he hg hs hw h1) fun D σ H ⟨ρ, ts, r, n, q⟩ => bindS r q fun sv v ρ' H' r' q' => ?_
  refine ⟨ρ', ts, sv, r', n, ?_⟩
  cases e : g sv ρ' with
  | none => rw [e] at q'; exact q'.elim
  | some ρ2 =>
    rw [e] at q'
    exact fun σ' H' r2 => q' _ _ r2
theorem bindS1 {m : M SV} {f : SV → MS} {t : SV × V} (r : R c σ ρ (t :: ts) H) (h : PostS c W ts Dn (mE m f ρ)) {Q' : VK} (k : ∀ sv v ρ' H', R c σ ρ' ((sv, v) :: t :: ts) H' → PostS c W ts Dn (f sv ρ') → Q' v H') : tDE c W m σ H Q' := by
  refine ⟨ρ, t :: ts, r, ?_⟩
  unfold mE at h
  cases e : m ρ with
  | none => rw [e] at h; exact h
  | some x =>
    rw [e] at h
    cases x with
    | er x ρ' => exact fun cls od H' r' z => h σ cls od H' r'.pop (z.less avr_sub)
    | ok sv ρ' => exact fun v H' r' => k sv v ρ' H' r' h
/-- xs[k] = value, xs slot j's own list -/
def putAt (j : Nat) (si sv : SV) : MS := fun ρ => match si with
  | .fz (.int k) => match esc sv ρ with
    | some (.ok d ρ') => match ρ'[j]? with
      | some (.own (.lst ds)) => match ixN ds.length k with
        | some n => some (.nx (ρ'.set j (.own (.lst (ds.set n d)))))
        | none => none
      | _ => none
    | _ => none
  | _ => none
def atOwn (j : Nat) (m : MS) : MS := fun ρ => match ρ[j]? with
  | some (.own _) => m ρ
  | _ => none
def mSetAt (j : Nat) (m mi : M SV) : MS := mE m fun sv => atOwn j (mE mi fun si => putAt j si sv)
theorem r_putAt {si : SV} {u w : V} (r : R c σ ρ ((si, u) :: (sv, v) :: ts) H) (hw : σ[i]? = some (some w)) (q : PostS c W ts Dn (putAt i si sv ρ)) : rSetL w u v H fun H3 => Dn.nx σ H3 := by
  unfold putAt at q
  split at q
  case h_2 => exact q.elim
  rename_i k
  have hu : u = .int k := by have z := r.top_fz; simpa only [Rep] using z
  cases e : esc sv ρ with
  | none => rw [e] at q; exact q.elim
  | some x =>
    cases x with
    | er x _ => exact absurd e esc_er
    | ok d ρ' =>
      rw [e] at q
      have r2 := r_esc r.pop e
      simp only at q
      cases e2 : ρ'[i]? with
      | none => rw [e2] at q; exact q.elim
      | some s =>
        rw [e2] at q
        cases s with
        | own d' =>
          cases d' with
          | lst ds =>
            simp only at q
            cases e3 : ixN ds.length k with
            | none => rw [e3] at q; exact q.elim
            | some n =>
              rw [e3] at q
              obtain ⟨p, ds', vs', e4, e5, e6, rl⟩ := r2.pop.slot_own e2
              cases e5
              rw [hw] at e4; cases e4
              refine ⟨p, vs', k, n, rfl, hu, e6, by rw [rl.length]; exact e3, ?_⟩
              exact q σ _ (r2.pop.write e2 hw (rl.set n r2.top_fz) upd_same fun a o ha h => by rw [upd_ne ha]; exact h)
          | _ => exact q.elim
        | _ => exact q.elim
theorem pd_setAt {ie e : Expr} {x : Str} {j : Nat} {po pt : Pos} {m mi : M SV} (ho : PE X (.Name x po) (tVar j)) (hi : PE X ie (tDE c W mi)) (he : PE X e (tDE c W m))
    (ha : ∀ v, assign (.Subscript (.Name x po) ie pt) X.env v = (do
      let ov ← holding [v] (eval (.Name x po) X.env)
      let iv ← holding [v, ov] (eval ie X.env)
      standAt pt
      holding [v, ov, iv] (setItem ov iv v)
      release [v, ov, iv] []) := by intro _; rfl)
    (hs : swapsWithSole [.Subscript (.Name x po) ie pt] e pos.line X.env = pure false := by rfl) (hw : swappedStores [.Subscript (.Name x po) ie pt] e X.env = pure none := by rfl)
    (h1 : (assignEach [.Subscript (.Name x po) ie pt] X.env).map (·.2) = [assign (.Subscript (.Name x po) ie pt) X.env] := by rfl) : PS X (.Assign [.Subscript (.Name x po) ie pt] e pos) (tDS c W (mSetAt j m mi)) := by
  refine ps_imp (ps_asg he (pg_sub ho hi set_list ha) hs hw h1) fun D σ H ⟨ρ, ts, r, n, q⟩ => bindS r q fun sv v ρ1 H1 r1 q1 => ?_
  unfold atOwn at q1
  cases ej : ρ1[j]? with
  | none => rw [ej] at q1; exact q1.elim
  | some s =>
    rw [ej] at q1
    cases s with
    | own d =>
      simp only at q1
      obtain ⟨p, ds, vs, e4, _⟩ := r1.slot_own ej
      exact ⟨_, e4, bindS1 r1 q1 fun si u ρ2 H2 r2 q2 => r_putAt r2 e4 q2⟩
    | _ => exact q1.elim
/-- name op= value -/
def mAug (f : D → D → Option BR) (i : Nat) (m : M SV) : MS := fun ρ => match ρ[i]? with
  | some (.fz d) => mE m (fun sv ρ1 => match con ρ1 sv with
    | some d2 => match f d d2 with
      | some (.imm d3) => some (.nx (ρ1.set i (.fz d3)))
      | _ => none
    | none => none) ρ
  | _ => none
def IpB (K : PySem.W.Frag) (t : TIp) (f : D → D → Option BR) : Prop := ∀ (A : Addr → Prop) (H : Hp) (d1 d2 d3 : D) (v1 v2 : V) (Q : VK), RepR K A H d1 v1 → RepR K A H d2 v2 → f d1 d2 = some (.imm d3) → (∀ v, Rep K A H d3 v → Q v H) → t v1 v2 H Q
theorem pd_aug {x : Str} {e : Expr} {op : Operator} {pos' : Pos} {m : M SV} {ti : TIp} {f : D → D → Option BR} (hi : IpB c.K ti f) (he : PE X e (tDE c W m)) (h : PS X (.AugAssign (.Name x pos') op e pos) (tAug i (tDE c W m) ti)) (hp : c.pin i = none := by rfl) : PS X (.AugAssign (.Name x pos') op e pos) (tDS c W (mAug f i m)) := by
  refine ps_imp h fun D σ H ⟨ρ, ts, r, n, q⟩ => ?_
  unfold mAug at q
  cases e1 : ρ[i]? with
  | none => rw [e1] at q; exact q.elim
  | some s =>
    rw [e1] at q
    cases s with
    | fz d =>
      obtain ⟨v, e2, r2⟩ := r.slot_fz e1
      refine ⟨v, e2, bindS1 (t := (.fz d, v)) r2 q fun sv u ρ1 H1 r3 q1 => ?_⟩
      cases e3 : con ρ1 sv with
      | none => rw [e3] at q1; exact q1.elim
      | some d2 =>
        rw [e3] at q1
        simp only at q1
        cases e4 : f d d2 with
        | none => rw [e4] at q1; exact q1.elim
        | some b =>
          rw [e4] at q1
          cases b with
          | imm d3 =>
            refine hi _ H1 d d2 d3 v u _ (r3.con (sv := .fz d) (List.mem_cons_of_mem _ List.mem_cons_self) rfl) (r3.con List.mem_cons_self e3) e4 fun w hw => ?_
            have r4 : R c σ ρ1 ((.fz d3, w) :: ts) H1 := r3.pop.pop.push_fz (hw.less fun a y => .inl (avr_sub a (avr_sub a y)))
            refine q1 _ H1 (r4.store (fun j z hm => ?_) ?_ hp)
            · rcases List.mem_cons.mp hm with y | y
              · cases y
              · exact n j z y
            · have := (List.getElem?_eq_some_iff.mp e2).1
              exact this
          | _ => exact q1.elim
    | _ => exact q.elim
def fAddI := iff2 yes2 fun i j => i + j
def fSubI := iff2 yes2 fun i j => i - j
theorem ipB_I {K : PySem.W.Frag} {g : Int → Int → Int} : IpB K (ipI g) (iff2 yes2 g) := by
  intro A H d1 d2 d3 v1 v2 Q h1 h2 e q
  unfold iff2 at e
  split at e
  · simp only [yes2, if_true] at e
    cases e
    exact ⟨_, _, repR_int h1, repR_int h2, q _ (rep_int _)⟩
  · cases e
theorem pGet_list {X : Cx} : PGet X (rIxL X.K) := by
  intro pins s σ H o i ov iv Q I ro ri h
  obtain ⟨p, xs, k, z, rfl, rfl, hq, he, q⟩ := h
  cases ro
  obtain ⟨t, rfl⟩ := ri
  obtain ⟨its, r, pl, hz⟩ := I.list hq
  obtain ⟨j, h1, h2, h3, h4, h5⟩ := atI_get he
  obtain ⟨w, ew, rw'⟩ := r.get h2
  have hl := r.length
  have hn := line63
  have fin : EP X pins σ Q w s := ⟨z, H, I, rw', q⟩
  by_cases h0 : 0 ≤ k
  · have hj : k.toNat = j := by
      rw [seqIndex_of h0 h5] at h1
      exact Option.some.inj h1
    exact wpAny_getItem_list pl.isList h0 (by omega) (by rw [hj]; simpa using ew) fin
  · have hj : (k + (its.toArray.size : Int)).toNat = j := by
      rw [seqIndex_neg (by omega) h4] at h1
      rw [List.size_toArray, ← hl]
      exact Option.some.inj h1
    exact wpAny_getItem_list_neg pl.isList (by omega) (by rw [List.size_toArray] <;> omega) (by omega) (by rw [hj]; simpa using ew) fin
def augAt2 (f : D → D → Option BR) (j : Nat) (k : Int) (d : D) (sv : SV) : MS := fun ρ1 => match ρ1[j]? with
  | some (.own (.lst ds1)) => match con ρ1 sv, ixN ds1.length k with
    | some d2, some n => match f d d2 with
      | some (.imm d3) => if nolist d3 = true then some (.nx (ρ1.set j (.own (.lst (ds1.set n d3))))) else none
      | _ => none
    | _, _ => none
  | _ => none
def augAt1 (f : D → D → Option BR) (j : Nat) (m : M SV) (si : SV) : MS := fun ρ => match si with
  | .fz (.int k) => match ρ[j]? with
    | some (.own (.lst ds)) => match atI ds k with
      | some d => mE m (fun sv => augAt2 f j k d sv) ρ
      | none => none
    | _ => none
  | _ => none
def mAugAt (f : D → D → Option BR) (j : Nat) (mi m : M SV) : MS := atOwn j (mE mi fun si => augAt1 f j m si)
theorem pd_augAt {x : Str} {ie e : Expr} {op : Operator} {po tpos : Pos} {j : Nat} {m mi : M SV} {ti : TIp} {f : D → D → Option BR} (hi : IpB c.K ti f) (hp : PIp X op ti) (ho : PE X (.Name x po) (tVar j)) (hie : PE X ie (tDE c W mi)) (he : PE X e (tDE c W m)) (hK : c.K = X.K := by rfl)
    (ha : ∀ ov iv new, augStore ie ov iv new = (do holding [new, ov, iv] (setItem ov iv new); release [new, ov, iv] []; pure .next) := by intros; rfl) : PS X (.AugAssign (.Subscript (.Name x po) ie tpos) op e pos) (tDS c W (mAugAt f j mi m)) := by
  refine ps_imp (ps_augS ho hie pGet_list he hp set_list ha) fun D σ H ⟨ρ, ts, r, n, q⟩ => ?_
  unfold mAugAt atOwn at q
  cases ej : ρ[j]? with
  | none => rw [ej] at q; exact q.elim
  | some s =>
    rw [ej] at q
    cases s with
    | own d0 =>
      simp only at q
      obtain ⟨p, _, _, e4, _⟩ := r.slot_own ej
      refine ⟨_, e4, bindS r q fun si u ρ1 H1 r1 q1 => ?_⟩
      unfold augAt1 at q1
      split at q1
      case h_2 => exact q1.elim
      rename_i k
      have hu : u = .int k := by have z := r1.top_fz; simpa only [Rep] using z
      cases e1 : ρ1[j]? with
      | none => rw [e1] at q1; exact q1.elim
      | some s =>
        rw [e1] at q1
        cases s with
        | own d1 =>
          cases d1 with
          | lst ds =>
            simp only at q1
            cases e2 : atI ds k with
            | none => rw [e2] at q1; exact q1.elim
            | some d =>
              rw [e2] at q1
              simp only at q1
              obtain ⟨p1, ds', vs', f1, f2, f3, rl⟩ := r1.slot_own e1
              cases f2
              rw [e4] at f1; cases f1
              obtain ⟨x3, g1, g2⟩ := atI_rep rl e2
              have r2 : R c σ ρ1 ((.fz d, x3) :: ts) H1 := r1.pop.push_fz (g2.less fun a y => .inl (avr_sub a y))
              refine ⟨p, vs', k, x3, rfl, hu, SqL.of f3, g1, bindS1 (t := (.fz d, x3)) r2 q1 fun sv y ρ2 H2 r3 q2 => ?_⟩
              unfold augAt2 at q2
              cases e5 : ρ2[j]? with
              | none => rw [e5] at q2; exact q2.elim
              | some s =>
                rw [e5] at q2
                cases s with
                | own d2 =>
                  cases d2 with
                  | lst ds1 =>
                    simp only at q2
                    cases e6 : con ρ2 sv with
                    | none => rw [e6] at q2; exact q2.elim
                    | some d2 =>
                    cases e7 : ixN ds1.length k with
                    | none => rw [e6, e7] at q2; exact q2.elim
                    | some nn =>
                    rw [e6, e7] at q2
                    simp only at q2
                    cases e8 : f d d2 with
                    | none => rw [e8] at q2; exact q2.elim
                    | some b =>
                    rw [e8] at q2
                    cases b with
                    | imm d3 =>
                      simp only at q2
                      by_cases hc : nolist d3 = true
                      · rw [if_pos hc] at q2
                        refine hi _ H2 d d2 d3 x3 y _ (r3.con (sv := .fz d) (List.mem_cons_of_mem _ List.mem_cons_self) rfl) (r3.con List.mem_cons_self e6) e8 fun w hw => ?_
                        obtain ⟨p2, ds2, vs2, k1, k2, k3, rl2⟩ := r3.slot_own e5
                        cases k2
                        rw [e4] at k1; cases k1
                        refine ⟨p, vs2, k, nn, rfl, hu, k3, by rw [rl2.length]; exact e7, ?_⟩
                        exact q2 σ _ ((r3.write e5 e4 (rl2.set nn (Rep.any hc hw)) upd_same fun a o ha h => by rw [upd_ne ha]; exact h).pop.pop)
                      · rw [if_neg hc] at q2; exact q2.elim
                    | _ => exact q2.elim
                  | _ => exact q2.elim
                | _ => exact q2.elim
          | _ => exact q1.elim
        | _ => exact q1.elim
    | _ => exact q.elim

/-! ### what a loop walks -/
/-- the walk J yields the data ds, whatever happens meanwhile, as long as the temporaries tt stand -/
def JD (c : Fc) (J : It) (ds : List D) (tt : Ts) : Prop := ∀ (σ : L2.St) (ρ : List SV) (ts : Ts) (H : Hp) (i : Nat), R c σ ρ ts H → (∀ t ∈ tt, t ∈ ts) →
  (ds.length ≤ i → J.stop i H) ∧ (∀ d, ds[i]? = some d → J.go i H ∧ ∀ x H', J.yld i H x H' → R c σ ρ ((.fz d, x) :: ts) H')
def PostI (c : Fc) (W : WX) (σ : L2.St) (ts : Ts) (Q : It → Hp → Prop) : Option (Res (List D)) → Prop
  | some (.ok ds ρ) => ∀ J H tt, R c σ ρ (tt ++ ts) H → NoLoc tt → JD c J ds tt → Q J H
  | some (.er e ρ) => ∀ cls od H, R c σ ρ ts H → ExRep c.K (Avr c σ ρ ts) H e cls od → W cls od σ H
  | none => False
def tDI (c : Fc) (W : WX) (m : M (List D)) : TI := fun σ H Q => ∃ ρ ts, R c σ ρ ts H ∧ PostI c W σ ts Q (m ρ)
theorem pi_imp {X : Cx} {tg e : Expr} {t t' : TI} (h : PI X tg e t) (hi : ∀ σ H Q, t' σ H Q → t σ H Q) : PI X tg e t' := ⟨fun pins s σ H Q I q => h.run pins s σ H Q I (hi _ _ _ q)⟩
theorem bindI {m : M SV} {f : SV → M (List D)} {Q : It → Hp → Prop} (r : R c σ ρ ts H) (h : PostI c W σ ts Q ((m.bnd f) ρ)) {Q' : VK} (k : ∀ sv v ρ' H', R c σ ρ' ((sv, v) :: ts) H' → PostI c W σ ts Q (f sv ρ') → Q' v H') : tDE c W m σ H Q' := by
  refine ⟨ρ, ts, r, ?_⟩
  cases e : m ρ with
  | none => rw [bnd_none e] at h; exact h
  | some x =>
    cases x with
    | er x ρ' => rw [bnd_er e] at h; exact h
    | ok sv ρ' => rw [bnd_some e] at h; exact fun v H' r' => k sv v ρ' H' r' h
theorem bindAI {m : M (List SV)} {f : List SV → M (List D)} {Q : It → Hp → Prop} (r : R c σ ρ ts H) (h : PostI c W σ ts Q ((m.bnd f) ρ)) {Q' : List V → Hp → Prop} (k : ∀ svs vs ρ' H', svs.length = vs.length → R c σ ρ' (svs.zip vs ++ ts) H' → PostI c W σ ts Q (f svs ρ') → Q' vs H') : tDA c W m σ H Q' := by
  refine ⟨ρ, ts, r, ?_⟩
  cases e : m ρ with
  | none => rw [bnd_none e] at h; exact h
  | some x =>
    cases x with
    | er x ρ' => rw [bnd_er e] at h; exact h
    | ok svs ρ' => rw [bnd_some e] at h; exact fun vs H' hl r' => k svs vs ρ' H' hl r' h
/-- list or tuple -/
def iSeq (K : PySem.W.Frag) (tl : TE) : TI := fun σ H R => tl σ H fun x H1 => ∃ a, x = .ref a ∧ (((∃ xs, SqL K H1 a xs) ∧ R (Itl K a) H1) ∨ ((∃ xs, SqT K H1 a xs) ∧ R (Itt K a) H1))
theorem pi_seq {X : Cx} {tg l : Expr} {tl : TE} (hl : PE X l tl) : PI X tg l (iSeq X.K tl) := by
  refine ⟨fun pins s σ H R I h => ?_⟩
  refine thn (hl.run pins s σ H _ I h) fun v s1 ⟨x, H1, I1, r1, q1⟩ => ?_
  obtain ⟨a, e, q⟩ := q1
  subst e
  cases r1
  rcases q with ⟨⟨xs, hq⟩, q⟩ | ⟨⟨xs, hq⟩, q⟩
  · obtain ⟨its, rv, p, hz⟩ := I1.list hq
    refine wpAny_pyIter_list p.isList ?_
    refine ⟨s1.heap.objs.size, [s1.heap.objs.size], _, _, H1, rfl, I1.kept (t' := s1.toks) fun b o e => Heap.get?_push_of_some _ e, turn_list a _, ⟨_, Heap.get?_push_size _ rfl, rfl, rfl⟩, fun b hb => ?_, q⟩
    have e : b = s1.heap.objs.size := by simpa using hb
    subst e
    exact I1.fpOk (Nat.le_refl _) (I1.hok.fresh (Nat.le_refl _))
  · obtain ⟨its, rv, p, hz⟩ := I1.tuple hq
    refine wpAny_pyIter_tuple (show s1.heap.IsTuple a its.toArray from p) ?_
    refine ⟨s1.heap.objs.size, [s1.heap.objs.size], _, _, H1, rfl, I1.kept (t' := s1.toks) fun b o e => Heap.get?_push_of_some _ e, turn_tuple a _, ⟨_, Heap.get?_push_size _ rfl, rfl, rfl⟩, fun b hb => ?_, q⟩
    have e : b = s1.heap.objs.size := by simpa using hb
    subst e
    exact I1.fpOk (Nat.le_refl _) (I1.hok.fresh (Nat.le_refl _))
def itD : D → Option (List D)
  | .lst ds => some ds
  | .tup ds => some ds
  | .seq ds => some ds
  | _ => none
def mItems (m : M SV) : M (List D) := m.bnd fun s => (esc s).bnd fun d => fun ρ => match itD d with
  | some ds => some (.ok ds ρ)
  | none => none
theorem rep_get? {K : PySem.W.Frag} {A : Addr → Prop} {x : V} (rl : RepL K A H ds vs) (e : ds[i]? = some d) (h : vs[i]? = some x) : Rep K A H d x := by
  obtain ⟨v, e1, e2⟩ := rl.get e
  rw [h] at e1; cases e1
  exact e2
theorem jd_list {a : Addr} : JD c (Itl c.K a) ds [(.fz (.lst ds), .ref a)] := by
  intro σ ρ ts H i r ht
  obtain ⟨w, e, q⟩ := r.g.rs _ (List.mem_append_left _ (tsP_mem (ht _ List.mem_cons_self)))
  cases e
  simp only [Rep] at q
  obtain ⟨a', vs, e1, e2, rl⟩ := q
  cases e1
  refine ⟨fun h => ⟨vs, SqL.of e2.1, by rw [rl.length]; exact h⟩, fun d hd => ?_⟩
  obtain ⟨x, hx, rx⟩ := rl.get hd
  refine ⟨⟨vs, x, SqL.of e2.1, hx⟩, fun y H' ⟨eH, hy⟩ => ?_⟩
  subst eH
  have := hy vs (SqL.of e2.1)
  rw [hx] at this; cases this
  exact r.push_fz rx
theorem jd_seq {a : Addr} : JD c (Itl c.K a) ds [(.fz (.seq ds), .ref a)] := by
  intro σ ρ ts H i r ht
  obtain ⟨w, e, q⟩ := r.g.rs _ (List.mem_append_left _ (tsP_mem (ht _ List.mem_cons_self)))
  cases e
  simp only [Rep] at q
  obtain ⟨a', vs, e1, e2, rl⟩ := q
  cases e1
  refine ⟨fun h => ⟨vs, e2.sq, by rw [rl.length]; exact h⟩, fun d hd => ?_⟩
  obtain ⟨x, hx, rx⟩ := rl.get hd
  refine ⟨⟨vs, x, e2.sq, hx⟩, fun y H' ⟨eH, hy⟩ => ?_⟩
  subst eH
  have := hy vs e2.sq
  rw [hx] at this; cases this
  exact r.push_fz rx
theorem jd_tup {a : Addr} : JD c (Itt c.K a) ds [(.fz (.tup ds), .ref a)] := by
  intro σ ρ ts H i r ht
  obtain ⟨w, e, q⟩ := r.g.rs _ (List.mem_append_left _ (tsP_mem (ht _ List.mem_cons_self)))
  cases e
  simp only [Rep] at q
  obtain ⟨a', vs, e1, e2, rl⟩ := q
  cases e1
  refine ⟨fun h => ⟨vs, e2, by rw [rl.length]; exact h⟩, fun d hd => ?_⟩
  obtain ⟨x, hx, rx⟩ := rl.get hd
  refine ⟨⟨vs, x, e2, hx⟩, fun y H' ⟨eH, hy⟩ => ?_⟩
  subst eH
  have := hy vs e2
  rw [hx] at this; cases this
  exact r.push_fz rx
theorem noLoc1 {d : D} : NoLoc [(.fz d, v)] := fun i u h => by simp at h
theorem pd_seq {tg l : Expr} {m : M SV} (hl : PE X l (tDE c W m)) (hK : c.K = X.K := by rfl) : PI X tg l (tDI c W (mItems m)) := by
  refine pi_imp (pi_seq hl) fun σ H Q ⟨ρ, ts, r, q⟩ => bindI r q fun sv v ρ1 H1 r1 q1 => ?_
  cases e : esc sv ρ1 with
  | none => rw [bnd_none e] at q1; exact q1.elim
  | some x =>
    cases x with
    | er x _ => exact absurd e esc_er
    | ok d ρ2 =>
      rw [bnd_some e] at q1
      have r2 := r_esc r1 e
      have t := r2.top_fz
      cases d with
      | lst ds =>
        simp only [Rep] at t
        obtain ⟨a, vs, rfl, e2, rl⟩ := t
        exact ⟨a, rfl, .inl ⟨⟨vs, SqL.of e2.1⟩, q1 _ _ [_] r2 noLoc1 (hK ▸ jd_list)⟩⟩
      | seq ds =>
        simp only [Rep] at t
        obtain ⟨a, vs, rfl, e2, rl⟩ := t
        exact ⟨a, rfl, .inl ⟨⟨vs, hK ▸ e2.sq⟩, q1 _ _ [_] r2 noLoc1 (hK ▸ jd_seq)⟩⟩
      | tup ds =>
        simp only [Rep] at t
        obtain ⟨a, vs, rfl, e2, rl⟩ := t
        exact ⟨a, rfl, .inr ⟨⟨vs, hK ▸ e2⟩, q1 _ _ [_] r2 noLoc1 (hK ▸ jd_tup)⟩⟩
      | _ => exact q1.elim
def rgD (lo : Int) (n : Nat) : List D := (List.range n).map fun k => .int (lo + (k : Nat))
theorem rgD_get {lo : Int} {n k : Nat} : (rgD lo n)[k]? = if k < n then some (.int (lo + (k : Nat))) else none := by
  unfold rgD
  rw [List.getElem?_map]
  by_cases h : k < n
  · rw [List.getElem?_range h, if_pos h]; rfl
  · rw [List.getElem?_eq_none (by simpa using h), if_neg h]; rfl
theorem jd_range {lo : Int} {n : Nat} : JD c (Itr lo n) (rgD lo n) [] := by
  intro σ ρ ts H i r ht
  have hl : (rgD lo n).length = n := by simp [rgD]
  refine ⟨fun h => by rw [hl] at h; exact h, fun d hd => ?_⟩
  rw [rgD_get] at hd
  split at hd
  · rename_i hi
    cases hd
    refine ⟨hi, fun x H' ⟨e1, e2⟩ => ?_⟩
    subst e1 e2
    exact r.push_fz (rep_int _)
  · cases hd
def rgOk (i : Int) : Bool := nlt i.natAbs (2 ^ 62)
theorem rgOk_iff {i : Int} : rgOk i = true ↔ (-(2 ^ 62) < i ∧ i < 2 ^ 62) := by
  unfold rgOk; rw [nlt_iff]; omega
def mRange1 (m : M SV) : M (List D) := m.bnd fun s => fun ρ => match s with
  | .fz (.int j) => if rgOk j = true then some (.ok (rgD 0 j.toNat) ρ) else none
  | _ => none
def mRange2 (m n : M SV) : M (List D) := m.bnd fun s => n.bnd fun u => fun ρ => match s, u with
  | .fz (.int i), .fz (.int j) => if (rgOk i && rgOk j) = true then some (.ok (rgD i (j - i).toNat) ρ) else none
  | _, _ => none
theorem pd_range1 {tg a : Expr} {m : M SV} {p' : Pos} (ha : PE X a (tDE c W m)) (hg : Gl X "range") (hm : X.mg "range" = none) (h1 : starEach [a] X.env = (false, eval a X.env) :: starEach [] X.env := by rfl) (h2 : starEach [a] X.env = [(false, eval a X.env)] := by rfl) :
    PI X tg (.Call (.Name "range" p') [a] [] pos) (tDI c W (mRange1 m)) := by
  refine pi_imp (pi_range1 hg hm (pa_cons ha pa_nil h1) h2) fun σ H Q ⟨ρ, ts, r, q⟩ => bindI r q fun sv v ρ1 H1 r1 q1 => ?_
  split at q1
  · rename_i j
    split at q1
    · rename_i hc
      rw [rgOk_iff] at hc
      have hv : v = .int j := by have z := r1.top_fz; simpa only [Rep] using z
      exact ⟨j, by rw [hv], by omega, hc.2, q1 _ _ [] r1.pop (fun i u h => by cases h) jd_range⟩
    · exact q1.elim
  · exact q1.elim
theorem bindI1 {m : M SV} {f : SV → M (List D)} {Q : It → Hp → Prop} {t : SV × V} (r : R c σ ρ (t :: ts) H) (h : PostI c W σ ts Q ((m.bnd f) ρ)) {Q' : VK} (k : ∀ sv v ρ' H', R c σ ρ' ((sv, v) :: t :: ts) H' → PostI c W σ ts Q (f sv ρ') → Q' v H') : tDE c W m σ H Q' := by
  refine ⟨ρ, t :: ts, r, ?_⟩
  cases e : m ρ with
  | none => rw [bnd_none e] at h; exact h
  | some x =>
    cases x with
    | er x ρ' => rw [bnd_er e] at h; exact fun cls od H' r' q => h cls od H' r'.pop (q.less avr_sub)
    | ok sv ρ' => rw [bnd_some e] at h; exact fun v H' r' => k sv v ρ' H' r' h
theorem pd_range2 {tg a b : Expr} {m n : M SV} {p' : Pos} (ha : PE X a (tDE c W m)) (hb : PE X b (tDE c W n)) (hg : Gl X "range") (hm : X.mg "range" = none)
    (h1 : starEach [a, b] X.env = (false, eval a X.env) :: starEach [b] X.env := by rfl) (h1' : starEach [b] X.env = (false, eval b X.env) :: starEach [] X.env := by rfl) (h2 : starEach [a, b] X.env = [(false, eval a X.env), (false, eval b X.env)] := by rfl) (h3 : starEach [b] X.env = [(false, eval b X.env)] := by rfl) :
    PI X tg (.Call (.Name "range" p') [a, b] [] pos) (tDI c W (mRange2 m n)) := by
  refine pi_imp (pi_range2 hg hm (pa_cons ha (pa_cons hb pa_nil h1') h1) h2 h3) fun σ H Q ⟨ρ, ts, r, q⟩ => bindI r q fun s1 v1 ρ1 H1 r1 q1 => bindI1 r1 q1 fun s2 v2 ρ2 H2 r2 q2 => ?_
  split at q2
  · rename_i i j
    split at q2
    · rename_i hc
      simp only [Bool.and_eq_true, rgOk_iff] at hc
      have hv2 : v2 = .int j := by have z := r2.top_fz; simpa only [Rep] using z
      have hv1 : v1 = .int i := by have z := r2.pop.top_fz; simpa only [Rep] using z
      exact ⟨i, j, by rw [hv1, hv2], ⟨by omega, hc.1.2, by omega, hc.2.2⟩, q2 _ _ [] r2.pop.pop (fun i u h => by cases h) jd_range⟩
    · exact q2.elim
  · exact q2.elim
/-- the loop itself -/
def mLoop (g : SV → List SV → Option (List SV)) (b : MS) : List D → MS
  | [], ρ => some (.nx ρ)
  | d :: ds, ρ => match g (.fz d) ρ with
    | some ρ1 => match b ρ1 with
      | some (.nx ρ2) => mLoop g b ds ρ2
      | some (.ct ρ2) => mLoop g b ds ρ2
      | some (.bk ρ2) => some (.nx ρ2)
      | r => r
    | none => none
def mFor (mi : M (List D)) (g : SV → List SV → Option (List SV)) (b : MS) : MS := fun ρ => match mi ρ with
  | some (.ok ds ρ') => mLoop g b ds ρ'
  | some (.er e ρ') => some (.er e ρ')
  | none => none
theorem pops_noLoc {tt : Ts} (n1 : NoLoc tt) (n2 : NoLoc ts) : NoLoc (tt ++ ts) := fun i v h => (List.mem_append.mp h).elim (n1 i v) (n2 i v)
theorem pd_for {tg iter : Expr} {body : List Stmt} {mi : M (List D)} {g : SV → List SV → Option (List SV)} {b : MS} (hp : PassesOwn (model X.prog X.w) X.A X.env X.xe) (hc : X.calm = true) (hi : PI X tg iter (tDI c W mi)) (hg : PG X tg (tDG c g)) (hb : PSs X body (tDS c W b))
    (hs : ∀ x, foldedSetIterable iter X.env x = pure x := by intro _; rfl) : PS X (.For tg iter body [] pos) (tDS c W (mFor mi g b)) := by
  refine ps_imp (ps_for hp hc hi hg hb hs) fun D σ H ⟨ρ, ts, r, n, q⟩ => ⟨ρ, ts, r, ?_⟩
  unfold mFor at q
  cases e : mi ρ with
  | none => rw [e] at q; exact q
  | some x =>
    rw [e] at q
    cases x with
    | er x ρ' => exact fun cls od H' r' z => q σ cls od H' r' z
    | ok ds ρ' =>
      simp only at q
      intro J H1 tt r1 nt jd
      refine ⟨fun i m σ H => m = ds.length - i ∧ i ≤ ds.length ∧ ∃ ρ, R c σ ρ (tt ++ ts) H ∧ PostS c W ts D (mLoop g b (ds.drop i) ρ), ⟨ds.length, rfl, Nat.zero_le _, ρ', r1, q⟩, ?_⟩
      rintro i m σ2 H2 ⟨rfl, hi, ρ2, r2, q2⟩
      obtain ⟨j1, j2⟩ := jd σ2 ρ2 (tt ++ ts) H2 i r2 fun t h => List.mem_append_left _ h
      by_cases hlt : i < ds.length
      · have hd : ds[i]? = some ds[i] := by simp [hlt]
        obtain ⟨j3, j4⟩ := j2 _ hd
        have ed : ds.drop i = ds[i] :: ds.drop (i + 1) := List.drop_eq_getElem_cons hlt
        rw [ed] at q2
        simp only [mLoop] at q2
        refine .inr ⟨j3, fun σ' H' => i + 1 ≤ ds.length ∧ ∃ ρ, R c σ' ρ (tt ++ ts) H' ∧ PostS c W ts D (mLoop g b (ds.drop (i + 1)) ρ), fun σ' H' z => ⟨ds.length - (i + 1), by omega, rfl, z⟩, fun x H3 y => ?_⟩
        have r3 := j4 x H3 y
        refine ⟨ρ2, tt ++ ts, .fz ds[i], r3, pops_noLoc nt n, ?_⟩
        cases eg : g (.fz ds[i]) ρ2 with
        | none => rw [eg] at q2; exact q2.elim
        | some ρ3 =>
          rw [eg] at q2
          simp only at q2
          intro σ4 H4 r4
          refine ⟨ρ3, tt ++ ts, r4, pops_noLoc nt n, ?_⟩
          cases eb : b ρ3 with
          | none => rw [eb] at q2; exact q2.elim
          | some y =>
            rw [eb] at q2
            cases y with
            | nx ρ5 => exact fun σ5 H5 r5 => ⟨hlt, ρ5, r5, q2⟩
            | ct ρ5 => exact fun σ5 H5 r5 => ⟨hlt, ρ5, r5, q2⟩
            | bk ρ5 => exact fun σ5 H5 r5 => q2 σ5 H5 (R.pops _ r5)
            | rt sv ρ5 => exact fun σ5 v5 H5 r5 => q2 σ5 v5 H5 (R.pops tt (r5.perm (List.perm_middle.symm)))
            | er e ρ5 => exact fun σ5 cls od H5 r5 z => q2 σ5 cls od H5 (R.pops _ r5) (z.less (avr_subs tt))
      · have ei : i = ds.length := by omega
        subst ei
        refine .inl ⟨j1 (Nat.le_refl _), ?_⟩
        rw [List.drop_length] at q2
        exact q2 σ2 H2 (R.pops _ r2)
/-! while -/
def whileN (t : M Bool) (b : MS) : Nat → MS
  | 0, _ => none
  | k + 1, ρ => match t ρ with
    | some (.ok true ρ1) => match b ρ1 with
      | some (.nx ρ2) => whileN t b k ρ2
      | some (.ct ρ2) => whileN t b k ρ2
      | some (.bk ρ2) => some (.nx ρ2)
      | r => r
    | some (.ok false ρ1) => some (.nx ρ1)
    | some (.er e ρ1) => some (.er e ρ1)
    | none => none
theorem pd_while {t : Expr} {body : List Stmt} {mt : M Bool} {b : MS} (k : Nat) (hp : PassesOwn (model X.prog X.w) X.A X.env X.xe) (ht : PT X t (tDT c W mt)) (hb : PSs X body (tDS c W b)) : PS X (.While t body [] pos) (tDS c W (whileN mt b k)) := by
  refine ps_imp (ps_while hp ht hb) fun D σ H ⟨ρ, ts, r, n, q⟩ => ?_
  refine ⟨fun m σ H => ∃ ρ, R c σ ρ ts H ∧ PostS c W ts D (whileN mt b m ρ), ⟨k, ρ, r, q⟩, ?_⟩
  rintro m σ1 H1 ⟨ρ1, r1, q1⟩
  cases m with
  | zero => exact q1.elim
  | succ m =>
    simp only [whileN] at q1
    refine ⟨ρ1, ts, r1, ?_⟩
    cases e : mt ρ1 with
    | none => rw [e] at q1; exact q1
    | some x =>
      rw [e] at q1
      cases x with
      | er x ρ' => exact fun cls od H' r' z => q1 σ1 cls od H' r' z
      | ok bb ρ2 =>
        intro H2 r2
        cases bb with
        | false => exact q1 σ1 H2 r2
        | true =>
          simp only at q1
          refine ⟨fun σ' H' => ∃ ρ, R c σ' ρ ts H' ∧ PostS c W ts D (whileN mt b m ρ), fun σ' H' z => ⟨m, Nat.lt_succ_self _, z⟩, ρ2, ts, r2, n, ?_⟩
          cases eb : b ρ2 with
          | none => rw [eb] at q1; exact q1.elim
          | some y =>
            rw [eb] at q1
            cases y with
            | nx ρ5 => exact fun σ5 H5 r5 => ⟨ρ5, r5, q1⟩
            | ct ρ5 => exact fun σ5 H5 r5 => ⟨ρ5, r5, q1⟩
            | bk ρ5 => exact fun σ5 H5 r5 => q1 σ5 H5 r5
            | rt sv ρ5 => exact q1
            | er e ρ5 => exact q1
end
end DL

set_option Elab.async false
set_option linter.all false
set_option maxRecDepth 100000
/-! The data layer: comprehensions, list methods, a def's body. -/
namespace DL
open PySem PySem.Spec PyProof.Rows L2
section
variable {c : Fc} {W : WX} {X : Cx} {σ : L2.St} {ρ : List SV} {ts : Ts} {H H' : Hp} {sv : SV} {d : D} {ds : List D} {v w : V} {vs : List V} {p : Addr} {i j : Nat} {Q : VK} {pos : Pos}
/-! ### comprehensions -/
def wipeD (ρ : List SV) : List Nat → List SV
  | [] => ρ
  | v :: vs => (wipeD ρ vs).set v .un
theorem r_set_un {o : Option V} (r : R c σ ρ ts H) (hc : c.cv i = true ∧ c.pin i = none) : R c (σ.set i o) (ρ.set i .un) ts H := by
  by_cases hi : i < ρ.length
  · obtain ⟨ov, e1, g, k⟩ := r.at (i := i) (sv := ρ[i]) (by simp [hi])
    refine k .un o _ H (fun j z => by cases z) ?_ rfl
    refine G.sig (σ := σ) g.drop.push_un (fun j u hm hv => ?_) fun j u e h => by
      rw [List.getElem?_set_ne (fun z => by subst z; rw [hc.2] at e; cases e)]; exact h
    have hj : c.cv j = false := by
      rcases List.mem_cons.mp hm with z | z
      · cases z
      · exact (g.rs _ (List.mem_cons_of_mem _ z)).1
    have : i ≠ j := fun z => by subst z; rw [hc.1] at hj; cases hj
    rw [List.getElem?_set_ne this]
    exact hv
  · have h1 : ρ.set i .un = ρ := List.set_eq_of_length_le (by omega)
    have h2 : σ.set i o = σ := List.set_eq_of_length_le (by rw [← r.len]; omega)
    rw [h1, h2]; exact r
theorem r_wipe (r : R c σ ρ ts H) : ∀ {vs : List Nat}, (∀ i ∈ vs, c.cv i = true ∧ c.pin i = none) → R c (wipe σ vs) (wipeD ρ vs) ts H
  | [], _ => r
  | i :: vs, h => by
    unfold wipe wipeD
    exact r_set_un (r_wipe r fun j hj => h j (List.mem_cons_of_mem _ hj)) (h i List.mem_cons_self)
theorem wipe_len {vs : List Nat} : (wipe σ vs).length = σ.length := wipe_length σ vs
theorem wipe_get {vs : List Nat} (h : i ∉ vs) : (wipe σ vs)[i]? = σ[i]? := by
  induction vs with
  | nil => rfl
  | cons a vs ih =>
    unfold wipe
    rw [List.getElem?_set_ne (fun z => h (by rw [z]; exact List.mem_cons_self))]
    exact ih fun z => h (List.mem_cons_of_mem _ z)
theorem own_zip_same : ∀ {ρ : List SV} {σ σ' : L2.St}, σ'.length = σ.length → (∀ (i : Nat), ρ[i]? = some SV.un ∨ σ'[i]? = σ[i]?) → Own (ρ.zip σ') = Own (ρ.zip σ) ∧ ∀ x ∈ ρ.zip σ', x ∈ ρ.zip σ ∨ x.1 = SV.un
  | [], σ, σ', _, _ => by simp
  | s :: ρ, [], σ', hl, _ => by
    have : σ' = [] := List.length_eq_zero_iff.mp (by simpa using hl)
    subst this; simp
  | s :: ρ, o :: σ, [], hl, _ => by simp at hl
  | s :: ρ, o :: σ, o' :: σ', hl, h => by
    obtain ⟨i1, i2⟩ := own_zip_same (ρ := ρ) (σ := σ) (σ' := σ') (by simpa using hl) fun i => by simpa using h (i + 1)
    have h0 := h 0
    simp only [List.getElem?_cons_zero, Option.some.injEq] at h0
    simp only [List.zip_cons_cons, List.mem_cons]
    rcases h0 with rfl | rfl
    · refine ⟨i1, fun x hx => ?_⟩
      rcases hx with rfl | hx
      · exact .inr rfl
      · exact (i2 x hx).imp .inr id
    · refine ⟨?_, fun x hx => ?_⟩
      · unfold Own at i1 ⊢
        rw [List.filterMap_cons, List.filterMap_cons, i1]
      · rcases hx with rfl | hx
        · exact .inl (.inl rfl)
        · exact (i2 x hx).imp .inr id
theorem r_same {σ' : L2.St} (r : R c σ ρ ts H) (hl : σ'.length = σ.length) (h : ∀ (i : Nat), ρ[i]? = some SV.un ∨ σ'[i]? = σ[i]?) (hc : ∀ i, c.cv i = false → σ'[i]? = σ[i]?) (hp : ∀ i v, c.pin i = some v → σ'[i]? = σ[i]?) : R c σ' ρ ts H := by
  obtain ⟨e1, e2⟩ := own_zip_same hl h
  refine ⟨r.len.trans hl.symm, r.nl, ?_⟩
  have g : G c σ (tsP ts ++ ρ.zip σ') H := by
    refine r.g.sub (fun x hx => ?_) ?_
    · rcases List.mem_append.mp hx with hx | hx
      · exact .inl (List.mem_append_left _ hx)
      · rcases e2 x hx with z | z
        · exact .inl (List.mem_append_right _ z)
        · obtain ⟨sv, ov⟩ := x
          cases z
          exact .inr trivial
    · rw [own_append, own_append, e1]
      exact List.Sublist.refl _
  refine G.sig g (fun j u hm hv => ?_) fun j u e h => by rw [hp j u e]; exact h
  rw [hc j (g.rs _ hm).1]
  exact hv
def Wiped (vs : List Nat) (ρ : List SV) : Prop := ∀ i ∈ vs, i < ρ.length → ρ[i]? = some SV.un
theorem wipeD_len {vs : List Nat} : (wipeD ρ vs).length = ρ.length := by
  induction vs with
  | nil => rfl
  | cons a vs ih => unfold wipeD; rw [List.length_set]; exact ih
theorem wipeD_wiped : ∀ {vs : List Nat}, Wiped vs (wipeD ρ vs)
  | [], i, h, _ => by cases h
  | a :: vs, i, h, hl => by
    unfold wipeD at hl ⊢
    rw [List.length_set] at hl
    by_cases e : a = i
    · subst e
      rw [List.getElem?_set_self hl]
    · rw [List.getElem?_set_ne e]
      exact wipeD_wiped i ((List.mem_cons.mp h).resolve_left fun z => e z.symm) hl
theorem r_unwipe {ns : List Nat} (hv : ∀ i ∈ ns, c.cv i = true ∧ c.pin i = none) (hw : Wiped ns ρ) (r : R c (wipe σ ns) ρ ts H) : R c σ ρ ts H := by
  have hl : ρ.length = σ.length := by rw [r.len, wipe_length]
  refine r_same r (wipe_length σ ns).symm (fun i => ?_) (fun i hi => ?_) fun i v e => ?_
  · by_cases h : i ∈ ns
    · by_cases h2 : i < ρ.length
      · exact .inl (hw i h h2)
      · refine .inr ?_
        rw [List.getElem?_eq_none (by omega), List.getElem?_eq_none (by rw [wipe_length]; omega)]
    · exact .inr (wipe_get h).symm
  · refine (wipe_get fun h => ?_).symm
    rw [(hv i h).1] at hi; cases hi
  · refine (wipe_get fun h => ?_).symm
    rw [(hv i h).2] at e; cases e
/-- the slots of ns again forgotten -/
theorem r_rewipe {σ2 : L2.St} {ns : List Nat} (hv : ∀ i ∈ ns, c.cv i = true ∧ c.pin i = none) (hs : wipe σ2 ns = wipe σ ns) (r : R c σ2 ρ ts H) : R c (wipe σ ns) (wipeD ρ ns) ts H := hs ▸ r_wipe r hv
/-- a temporary's own list grows -/
theorem r_grow {acc : List D} {y : V} (r : R c σ ρ ((.fz d, y) :: (.own (.lst acc), .ref p) :: ts) H) : ∃ xs, H p = some (.lst xs) ∧ xs.length = acc.length ∧ R c σ ρ ((.own (.lst (acc ++ [d])), .ref p) :: ts) (upd H p (.lst (xs ++ [y]))) := by
  have q := r.top_fz
  obtain ⟨p', ds', vs', e1, e2, e3, rl, n1, n2, n3⟩ := r.pop.g.own_at
  cases e1
  cases e2
  refine ⟨vs', e3, rl.length, r.len, r.nl, ?_⟩
  exact r.pop.g.upd (RepL.app rl (RepL.one q)) upd_same fun a o ha h => by rw [upd_ne ha]; exact h
def lcLoop (ns : List Nat) (g : SV → List SV → Option (List SV)) (t : M Bool) (e : M SV) : List D → List SV → List D → Option (List D × List SV)
  | [], ρ, acc => some (acc, ρ)
  | d :: ds, ρ, acc => match g (.fz d) ρ with
    | some ρ1 => match t ρ1 with
      | some (.ok true ρ2) => match e ρ2 with
        | some (.ok sv ρ3) => match esc sv ρ3 with
          | some (.ok y ρ4) => if acc.length < sizeLine then lcLoop ns g t e ds (wipeD ρ4 ns) (acc ++ [y]) else none
          | _ => none
        | _ => none
      | some (.ok false ρ2) => lcLoop ns g t e ds (wipeD ρ2 ns) acc
      | _ => none
    | none => none
def mLc (ns : List Nat) (mi : M (List D)) (g : SV → List SV → Option (List SV)) (t : M Bool) (e : M SV) : M SV := fun ρ => match mi ρ with
  | some (.ok ds ρ1) => match lcLoop ns g t e ds (wipeD ρ1 ns) [] with
    | some (acc, ρ2) => some (.ok (.own (.lst acc)) ρ2)
    | none => none
  | some (.er e ρ1) => some (.er e ρ1)
  | none => none
theorem r_storeC (r : R c σ ρ ((.fz d, v) :: ts) H) (hc : c.cv i = true ∧ c.pin i = none) (hi : i < ρ.length) : R c (σ.set i (some v)) (ρ.set i (.fz d)) ts H := by
  obtain ⟨ov, e1, g, k⟩ := r.pop.at (i := i) (sv := ρ[i]) (by simp [hi])
  refine k (.fz d) (some v) _ H (fun j z => by cases z) ?_ rfl
  obtain ⟨ov', e1', g', _⟩ := r.at (i := i) (sv := ρ[i]) (by simp [hi])
  have g2 : G c σ ((SV.fz d, some v) :: (tsP ts ++ (ρ.zip σ).eraseIdx i)) H := by
    have g3 : G c σ ((ρ[i], ov') :: (SV.fz d, some v) :: (tsP ts ++ (ρ.zip σ).eraseIdx i)) H := g'
    exact g3.drop
  refine G.sig g2 (fun j u hm hv => ?_) fun j u e h => by
    rw [List.getElem?_set_ne (fun z => by subst z; rw [hc.2] at e; cases e)]; exact h
  have hj : c.cv j = false := (g2.rs _ hm).1
  have : i ≠ j := fun z => by subst z; rw [hc.1] at hj; cases hj
  rw [List.getElem?_set_ne this]
  exact hv
/-- what a comprehension's target does -/
structure CG (c : Fc) (ns : List Nat) (t : TG) (g : SV → List SV → Option (List SV)) : Prop where
  go : ∀ (σ : L2.St) (ρ ρ' : List SV) (ts : Ts) (H : Hp) (d : D) (v : V) (Q : L2.St → Hp → Prop), R c σ ρ ((.fz d, v) :: ts) H → g (.fz d) ρ = some ρ' → (∀ σ', wipe σ' ns = wipe σ ns → R c σ' ρ' ts H → Q σ' H) → t v σ H Q
theorem wipe_comm : ∀ {ns : List Nat} {i : Nat} {o : Option V}, i ∈ ns → wipe (σ.set i o) ns = wipe σ ns
  | [], i, o, h => by cases h
  | a :: ns, i, o, h => by
    unfold wipe
    by_cases e : i ∈ ns
    · rw [wipe_comm e]
    · have ea : i = a := (List.mem_cons.mp h).resolve_right e
      subst ea
      have : ∀ {ns : List Nat}, i ∉ ns → (wipe (σ.set i o) ns).set i none = (wipe σ ns).set i none := by
        intro ns
        induction ns with
        | nil => intro _; simp [wipe, List.set_set]
        | cons b ns ih =>
          intro hn
          unfold wipe
          have hb : b ≠ i := fun z => hn (by rw [z]; exact List.mem_cons_self)
          rw [List.set_comm _ _ hb, List.set_comm _ _ hb, ih fun z => hn (List.mem_cons_of_mem _ z)]
      exact this e
theorem cg_name {ns : List Nat} (hc : c.cv i = true ∧ c.pin i = none) (hi : i ∈ ns) : CG c ns (gName i) (sto i) := ⟨fun σ ρ ρ' ts H d v Q r e k => by
  unfold sto at e
  split at e
  · rename_i h
    cases e
    exact k _ (wipe_comm hi) (r_storeC r hc h)
  · cases e⟩
theorem read_lc {own : List (Str × Nat)} {mi : M (List D)} {t : TG} {g : SV → List SV → Option (List SV)} {mt : M Bool} {me : M SV}
    (hv : ∀ i ∈ own.map (·.2), c.cv i = true ∧ c.pin i = none) (cg : CG c (own.map (·.2)) t g) {σ : L2.St} {H : Hp} {Q : VK} (h : tDE c W (mLc (own.map (·.2)) mi g mt me) σ H Q) : tLc (tDI c W mi) t (tDT c W0 mt) (tDE c W0 me) (own.map (·.2)) σ H Q := by
  obtain ⟨ρ, ts, r, q⟩ := h
  refine ⟨ρ, ts, r, ?_⟩
  unfold mLc at q
  cases e : mi ρ with
  | none => rw [e] at q; exact q
  | some x =>
  rw [e] at q
  cases x with
  | er x ρ' => exact q
  | ok ds ρ1 =>
  simp only at q
  cases el : lcLoop (own.map (·.2)) g mt me ds (wipeD ρ1 (own.map (·.2))) [] with
  | none => rw [el] at q; exact q.elim
  | some res =>
  obtain ⟨accF, ρF⟩ := res
  rw [el] at q
  simp only at q
  intro J H1 tt r1 nt jd D hD
  have r2 : R c σ ρ1 ((.own (.lst []), .ref D) :: (tt ++ ts)) (upd H1 D (.lst [])) := r1.push_new hD upd_same (ext_new hD) RepL.nil
  refine ⟨fun i m H => m = ds.length - i ∧ i ≤ ds.length ∧ ∃ ρ acc, R c (wipe σ (own.map (·.2))) ρ ((.own (.lst acc), .ref D) :: (tt ++ ts)) H ∧ Wiped (own.map (·.2)) ρ ∧ lcLoop (own.map (·.2)) g mt me (ds.drop i) ρ acc = some (accF, ρF),
    ⟨ds.length, rfl, Nat.zero_le _, _, [], r_wipe r2 hv, wipeD_wiped, el⟩, ?_⟩
  rintro i m H2 ⟨rfl, hi, ρ2, acc, r3, w3, e3⟩
  obtain ⟨j1, j2⟩ := jd (wipe σ (own.map (·.2))) ρ2 ((.own (.lst acc), .ref D) :: (tt ++ ts)) H2 i r3 fun t h => List.mem_cons_of_mem _ (List.mem_append_left _ h)
  by_cases hlt : i < ds.length
  · have hd : ds[i]? = some ds[i] := by simp [hlt]
    obtain ⟨j3, j4⟩ := j2 _ hd
    have ed : ds.drop i = ds[i] :: ds.drop (i + 1) := List.drop_eq_getElem_cons hlt
    rw [ed] at e3
    simp only [lcLoop] at e3
    refine .inr ⟨j3, fun H => i + 1 ≤ ds.length ∧ ∃ ρ acc, R c (wipe σ (own.map (·.2))) ρ ((.own (.lst acc), .ref D) :: (tt ++ ts)) H ∧ Wiped (own.map (·.2)) ρ ∧ lcLoop (own.map (·.2)) g mt me (ds.drop (i + 1)) ρ acc = some (accF, ρF), fun H' z => ⟨ds.length - (i + 1), by omega, rfl, z⟩, fun x H3 y => ?_⟩
    have r4 := j4 x H3 y
    cases eg : g (.fz ds[i]) ρ2 with
    | none => rw [eg] at e3; cases e3
    | some ρ4 =>
    rw [eg] at e3
    simp only at e3
    refine cg.go _ _ _ _ _ _ _ _ r4 eg fun σ5 hs5 r5 => ?_
    have hw : wipe (wipe σ (own.map (·.2))) (own.map (·.2)) = wipe σ (own.map (·.2)) := by
      apply List.ext_getElem?
      intro j
      by_cases hj : j ∈ own.map (·.2)
      · cases ej : (wipe (wipe σ (own.map (·.2))) (own.map (·.2)))[j]? with
        | none =>
          have := List.getElem?_eq_none_iff.mp ej
          rw [wipe_length] at this
          rw [List.getElem?_eq_none this]
        | some o =>
          have hlj : j < σ.length := by
            have := (List.getElem?_eq_some_iff.mp ej).1
            rwa [wipe_length, wipe_length] at this
          cases o with
          | some u => exact absurd hj (wipe_some ej).2
          | none =>
            cases ej2 : (wipe σ (own.map (·.2)))[j]? with
            | none => have := List.getElem?_eq_none_iff.mp ej2; rw [wipe_length] at this; omega
            | some o =>
              cases o with
              | some u => exact absurd hj (wipe_some ej2).2
              | none => rfl
      · rw [wipe_get hj]
    rw [hw] at hs5
    refine ⟨hs5, ρ4, _, r5, ?_⟩
    cases et : mt ρ4 with
    | none => rw [et] at e3; cases e3
    | some yt =>
    rw [et] at e3
    cases yt with
    | er _ _ => cases e3
    | ok bb ρ5 =>
    cases bb with
    | false =>
      simp only at e3
      intro H6 r6
      exact ⟨hlt, _, acc, r_rewipe hv hs5 r6, wipeD_wiped, e3⟩
    | true =>
      simp only at e3
      intro H6 r6
      refine ⟨ρ5, _, r6, ?_⟩
      cases ee : me ρ5 with
      | none => rw [ee] at e3; cases e3
      | some ye =>
      rw [ee] at e3
      cases ye with
      | er _ _ => cases e3
      | ok sv ρ6 =>
      simp only at e3
      intro yv H7 r7
      cases es : esc sv ρ6 with
      | none => rw [es] at e3; cases e3
      | some z =>
      rw [es] at e3
      cases z with
      | er _ _ => cases e3
      | ok yd ρ7 =>
      simp only at e3
      split at e3
      · rename_i hz
        obtain ⟨xs, h1, h2, r8⟩ := r_grow (r_esc r7 es)
        exact ⟨xs, h1, by rw [h2]; exact hz, hlt, _, _, r_rewipe hv hs5 r8, wipeD_wiped, e3⟩
      · cases e3
  · have ei : i = ds.length := by omega
    subst ei
    rw [List.drop_length] at e3
    simp only [lcLoop, Option.some.injEq, Prod.mk.injEq] at e3
    obtain ⟨rfl, rfl⟩ := e3
    refine .inl ⟨j1 (Nat.le_refl _), q _ _ ?_⟩
    have r9 := r_unwipe hv w3 r3
    exact R.pops tt (r9.perm List.perm_middle.symm)
theorem pd_lc {elt tg iter : Expr} {ifs : List Expr} {scope : Scope} {own : List (Str × Nat)} {mi : M (List D)} {t : TG} {g : SV → List SV → Option (List SV)} {mt : M Bool} {me : M SV} (hc : X.calm = true) (hN : X.N.Nodup) (hi : PI X tg iter (tDI c W mi)) (ok : BlkOk X.N X.env.scope scope own)
    (hv : ∀ i ∈ own.map (·.2), c.cv i = true ∧ c.pin i = none)
    (hg : ∀ (s : Shared) (H : Hp) (C : Addr) (cl : List (Str × Addr)) (fp : List Addr), PG (X.blk s H scope (compEnvC scope cl C X.env) fp) tg t) (cg : CG c (own.map (·.2)) t g)
    (ht : ∀ (s : Shared) (H : Hp) (C : Addr) (cl : List (Str × Addr)) (fp : List Addr), PTs (X.blk s H scope (compEnvC scope cl C X.env) fp) ifs (tDT c W0 mt))
    (he : ∀ (s : Shared) (H : Hp) (C : Addr) (cl : List (Str × Addr)) (fp : List Addr), PE (X.blk s H scope (compEnvC scope cl C X.env) fp) elt (tDE c W0 me)) (hs : ∀ x, foldedSetIterable iter X.env x = pure x := by intro _; rfl) :
    PE X (.ListComp elt [⟨tg, iter, ifs, 0⟩] scope pos) (tDE c W (mLc (own.map (·.2)) mi g mt me)) :=
  pe_imp (pe_lc hc hN hi ok hg ht he hs) fun σ H Q h => read_lc hv cg h
theorem pd_setR {i : Nat} {x : Str} {e : Expr} {m : M SV} {pos' : Pos} {t : TE} (h : PS X (.Assign [.Name x pos'] e pos) (tAsg t (gName i))) (hi : ∀ σ H Q, tDE c W m σ H Q → t σ H Q) (hp : c.pin i = none := by rfl) : PS X (.Assign [.Name x pos'] e pos) (tDS c W (mSet i m)) := by
  refine ps_imp h fun D σ H ⟨ρ, ts, r, n, q⟩ => hi _ _ _ (bindS r q fun sv v ρ' H' r' q' => ?_)
  cases e : sto i sv ρ' with
  | none => rw [e] at q'; exact q'.elim
  | some ρ2 =>
    rw [e] at q'
    exact q' _ _ (r_sto r' n hp e)
theorem pd_setLc {i : Nat} {y : Str} {py spos : Pos} {elt tg iter : Expr} {ifs : List Expr} {scope : Scope} {own : List (Str × Nat)} {mi : M (List D)} {t : TG} {g : SV → List SV → Option (List SV)} {mt : M Bool} {me : M SV} (hc : X.calm = true) (hN : X.N.Nodup)
    (hy : X.N[i]? = some y) (hyl : X.env.scope.names.lookup y = some .local) (hsw : swapsWith (.ListComp elt [⟨tg, iter, ifs, 0⟩] scope pos) (some (.Name y py)) spos.line X.env = pure true)
    (hi : PI X tg iter (tDI c W mi)) (ok : BlkOk X.N X.env.scope scope own)
    (hv : ∀ i ∈ own.map (·.2), c.cv i = true ∧ c.pin i = none)
    (hg : ∀ (s : Shared) (H : Hp) (C : Addr) (cl : List (Str × Addr)) (fp : List Addr), PG (X.blk s H scope (compEnvC scope cl C X.env) fp) tg t) (cg : CG c (own.map (·.2)) t g)
    (ht : ∀ (s : Shared) (H : Hp) (C : Addr) (cl : List (Str × Addr)) (fp : List Addr), PTs (X.blk s H scope (compEnvC scope cl C X.env) fp) ifs (tDT c W0 mt))
    (he : ∀ (s : Shared) (H : Hp) (C : Addr) (cl : List (Str × Addr)) (fp : List Addr), PE (X.blk s H scope (compEnvC scope cl C X.env) fp) elt (tDE c W0 me)) (hp : c.pin i = none := by rfl) (hs : ∀ x, foldedSetIterable iter X.env x = pure x := by intro _; rfl) :
    PS X (.Assign [.Name y py] (.ListComp elt [⟨tg, iter, ifs, 0⟩] scope pos) spos) (tDS c W (mSet i (mLc (own.map (·.2)) mi g mt me))) :=
  pd_setR (ps_setLc hc hN hy hyl hsw hi ok hg ht he hs) (fun σ H Q h => read_lc hv cg h) hp
end
end DL

set_option Elab.async false
set_option linter.all false
set_option maxRecDepth 100000
/-! The data layer: list methods, a def's body. -/
namespace DL
open PySem PySem.Spec PyProof.Rows L2
section
variable {c : Fc} {W : WX} {X : Cx} {σ : L2.St} {ρ : List SV} {ts : Ts} {H H' : Hp} {sv : SV} {d : D} {ds : List D} {v w : V} {vs : List V} {p : Addr} {i j : Nat} {Q : VK} {pos : Pos}
/-! ### methods of an own list -/
def MtS (K : PySem.W.Frag) (r : V → List V → Hp → VK → Prop) (j : Nat) (k : List SV → M SV) : Prop := ∀ (c : Fc) (W : WX) (σ : L2.St) (ρ : List SV) (ts : Ts) (H : Hp) (svs : List SV) (vs : List V) (w : V) (Q : VK), c.K = K → svs.length = vs.length →
  R c σ ρ (svs.zip vs ++ ts) H → σ[j]? = some (some w) → PostE c W σ ts Q (k svs ρ) → r w vs H Q
def mMeth (j : Nat) (ma : M (List SV)) (k : List SV → M SV) : M SV := fun ρ => match ρ[j]? with
  | some (.own _) => (ma.bnd k) ρ
  | _ => none
theorem pd_meth {x m : Str} {po apos cpos : Pos} {e : Expr} {es : List Expr} {ma : M (List SV)} {r : V → List V → Hp → VK → Prop} {k : List SV → M SV} (hk : MtS X.K r j k) (ha : PA X (e :: es) (tDA c W ma))
    (h : ∀ t, PA X (e :: es) t → PE X (.Call (.Attribute (.Name x po) m apos) (e :: es) [] cpos) (tBM X.K "list" r (tVar j) t)) (hK : c.K = X.K := by rfl) : PE X (.Call (.Attribute (.Name x po) m apos) (e :: es) [] cpos) (tDE c W (mMeth j ma k)) := by
  refine pe_imp (h _ ha) fun σ H Q ⟨ρ, ts, r, q⟩ => ?_
  unfold mMeth at q
  cases ej : ρ[j]? with
  | none => rw [ej] at q; exact q.elim
  | some s =>
    rw [ej] at q
    cases s with
    | own d =>
      obtain ⟨p, ds, us, e4, _, e6, _⟩ := r.slot_own ej
      refine ⟨_, e4, .inl ⟨rfl, us, SqL.of e6⟩, bindA (α := Unit) r q fun svs vs ρ1 H1 hl r1 q1 => ?_⟩
      exact hk c W σ ρ1 ts H1 svs vs _ Q hK hl r1 e4 q1
    | _ => exact q.elim
theorem pd_meth0 {x m : Str} {po apos cpos : Pos} {r : V → List V → Hp → VK → Prop} {k : List SV → M SV} (hk : MtS X.K r j k)
    (h : PE X (.Call (.Attribute (.Name x po) m apos) [] [] cpos) (tBM0 X.K "list" r (tVar j))) (hK : c.K = X.K := by rfl) : PE X (.Call (.Attribute (.Name x po) m apos) [] [] cpos) (tDE c W (mMeth j mNil k)) := by
  refine pe_imp h fun σ H Q ⟨ρ, ts, r, q⟩ => ?_
  unfold mMeth at q
  cases ej : ρ[j]? with
  | none => rw [ej] at q; exact q.elim
  | some s =>
    rw [ej] at q
    cases s with
    | own d =>
      obtain ⟨p, ds, us, e4, _, e6, _⟩ := r.slot_own ej
      exact ⟨_, e4, .inl ⟨rfl, us, SqL.of e6⟩, hk c W σ ρ ts H [] [] _ Q hK rfl r e4 q⟩
    | _ => exact q.elim
def kAppend (j : Nat) (svs : List SV) : M SV := fun ρ => match svs with
  | [s] => match esc s ρ with
    | some (.ok d ρ') => match ρ'[j]? with
      | some (.own (.lst ds)) => if ds.length < sizeLine then some (.ok (.fz .non) (ρ'.set j (.own (.lst (ds ++ [d]))))) else none
      | _ => none
    | _ => none
  | _ => none
theorem zip1 {svs : List SV} {vs : List V} {s : SV} (hl : svs.length = vs.length) (e : svs = [s]) : ∃ v, vs = [v] := by
  subst e
  cases vs with
  | nil => cases hl
  | cons v vs => cases vs with
    | nil => exact ⟨v, rfl⟩
    | cons _ _ => simp at hl
theorem mtS_append {K : PySem.W.Frag} : MtS K rAppend j (kAppend j) := by
  intro c W σ ρ ts H svs vs w Q hK hl r hw q
  unfold kAppend at q
  split at q
  case h_2 => exact q.elim
  rename_i s
  obtain ⟨v, rfl⟩ := zip1 hl rfl
  cases e : esc s ρ with
  | none => rw [e] at q; exact q.elim
  | some x =>
    cases x with
    | er x _ => exact absurd e esc_er
    | ok d ρ' =>
      rw [e] at q
      have r2 : R c σ ρ' ((.fz d, v) :: ts) H := r_esc r e
      simp only at q
      cases e2 : ρ'[j]? with
      | none => rw [e2] at q; exact q.elim
      | some s2 =>
        rw [e2] at q
        cases s2 with
        | own d2 =>
          cases d2 with
          | lst ds =>
            simp only at q
            split at q
            · rename_i hz
              obtain ⟨p, ds', us, e4, e5, e6, rl⟩ := r2.pop.slot_own e2
              cases e5
              rw [hw] at e4; cases e4
              refine ⟨p, us, v, rfl, rfl, e6, by rw [rl.length]; exact hz, ?_⟩
              exact q _ _ ((r2.pop.write e2 hw (RepL.app rl (RepL.one r2.top_fz)) upd_same fun a o ha h => by rw [upd_ne ha]; exact h).push_fz rep_non)
            · exact q.elim
          | _ => exact q.elim
        | _ => exact q.elim
def kPop (j : Nat) (svs : List SV) : M SV := fun ρ => match svs with
  | [] => match ρ[j]? with
    | some (.own (.lst ds)) => match ds[ds.length - 1]? with
      | some d => some (.ok (.fz d) (ρ.set j (.own (.lst ds.dropLast))))
      | none => none
    | _ => none
  | _ => none
theorem RepL.dropLast {K : PySem.W.Frag} {A : Addr → Prop} (r : RepL K A H ds vs) : RepL K A H ds.dropLast vs.dropLast := by
  rw [List.dropLast_eq_take, List.dropLast_eq_take, r.length]
  exact r.take _
theorem mtS_pop {K : PySem.W.Frag} : MtS K rPop j (kPop j) := by
  intro c W σ ρ ts H svs vs w Q hK hl r hw q
  unfold kPop at q
  split at q
  case h_2 => exact q.elim
  have : vs = [] := List.length_eq_zero_iff.mp hl.symm
  subst this
  cases e2 : ρ[j]? with
  | none => rw [e2] at q; exact q.elim
  | some s2 =>
    rw [e2] at q
    cases s2 with
    | own d2 =>
      cases d2 with
      | lst ds =>
        simp only at q
        cases e3 : ds[ds.length - 1]? with
        | none => rw [e3] at q; exact q.elim
        | some d =>
          rw [e3] at q
          have r0 : R c σ ρ ts H := r
          obtain ⟨p, ds', us, e4, e5, e6, rl⟩ := r0.slot_own e2
          cases e5
          rw [hw] at e4; cases e4
          obtain ⟨y, e7, ry⟩ := rl.get e3
          refine ⟨p, us, y, rfl, rfl, e6, by rw [rl.length]; exact e7, ?_⟩
          have r2 : R c σ ρ ((.fz d, y) :: ts) H := r0.push_fz ry
          exact q _ _ (r2.write e2 hw rl.dropLast upd_same fun a o ha h => by rw [upd_ne ha]; exact h)
      | _ => exact q.elim
    | _ => exact q.elim
def kPopAt (j : Nat) (svs : List SV) : M SV := fun ρ => match svs with
  | [.fz (.int k)] => match ρ[j]? with
    | some (.own (.lst ds)) => match ixN ds.length k with
      | some n => match ds[n]? with
        | some d => if rgOk k = true then some (.ok (.fz d) (ρ.set j (.own (.lst (ds.eraseIdx n))))) else none
        | none => none
      | none => none
    | _ => none
  | _ => none
theorem RepL.erase {K : PySem.W.Frag} {A : Addr → Prop} : ∀ {ds : List D} {vs : List V} (n : Nat), RepL K A H ds vs → RepL K A H (ds.eraseIdx n) (vs.eraseIdx n)
  | [], vs, n, r => by simp only [RepL] at r; subst r; simp [RepL]
  | d :: ds, vs, 0, r => by
    simp only [RepL] at r
    obtain ⟨v, vs', rfl, r, rs⟩ := r
    exact rs
  | d :: ds, vs, n + 1, r => by
    simp only [RepL] at r
    obtain ⟨v, vs', rfl, r, rs⟩ := r
    exact RepL.cons r (RepL.erase n rs)
theorem mtS_popAt {K : PySem.W.Frag} : MtS K rPopAt j (kPopAt j) := by
  intro c W σ ρ ts H svs vs w Q hK hl r hw q
  unfold kPopAt at q
  split at q
  case h_2 => exact q.elim
  rename_i k
  obtain ⟨v, rfl⟩ := zip1 hl rfl
  have r1 : R c σ ρ ((.fz (.int k), v) :: ts) H := r
  have hv : v = .int k := by have z := r1.top_fz; simpa only [Rep] using z
  subst hv
  cases e2 : ρ[j]? with
  | none => rw [e2] at q; exact q.elim
  | some s2 =>
    rw [e2] at q
    cases s2 with
    | own d2 =>
      cases d2 with
      | lst ds =>
        simp only at q
        cases e8 : ixN ds.length k with
        | none => rw [e8] at q; exact q.elim
        | some n =>
          rw [e8] at q
          simp only at q
          cases e3 : ds[n]? with
          | none => rw [e3] at q; exact q.elim
          | some d =>
            rw [e3] at q
            simp only at q
            split at q
            case isFalse => exact q.elim
            rename_i hc
            simp only [Bool.and_eq_true, rgOk_iff] at hc
            have r0 := r1.pop
            obtain ⟨p, ds', us, e4, e5, e6, rl⟩ := r0.slot_own e2
            cases e5
            rw [hw] at e4; cases e4
            obtain ⟨y, e7, ry⟩ := rl.get e3
            obtain ⟨h1, h2, h3, h4⟩ := ixN_seq e8
            have r2 : R c σ ρ ((.fz d, y) :: ts) H := r0.push_fz ry
            refine ⟨p, us, k, n, y, rfl, rfl, e6, by omega, by omega, by rw [rl.length]; exact h1, e7, ?_⟩
            exact q _ _ (r2.write e2 hw (rl.erase n) upd_same fun a o ha h => by rw [upd_ne ha]; exact h)
      | _ => exact q.elim
    | _ => exact q.elim
def kReverse (j : Nat) (svs : List SV) : M SV := fun ρ => match svs with
  | [] => match ρ[j]? with
    | some (.own (.lst ds)) => some (.ok (.fz .non) (ρ.set j (.own (.lst ds.reverse))))
    | _ => none
  | _ => none
theorem RepL.rev {K : PySem.W.Frag} {A : Addr → Prop} : ∀ {ds : List D} {vs : List V}, RepL K A H ds vs → RepL K A H ds.reverse vs.reverse
  | [], vs, r => by simp only [RepL] at r; subst r; simp [RepL]
  | d :: ds, vs, r => by
    simp only [RepL] at r
    obtain ⟨v, vs', rfl, r, rs⟩ := r
    rw [List.reverse_cons, List.reverse_cons]
    exact RepL.app (RepL.rev rs) (RepL.one r)
theorem mtS_reverse {K : PySem.W.Frag} : MtS K rReverse j (kReverse j) := by
  intro c W σ ρ ts H svs vs w Q hK hl r hw q
  unfold kReverse at q
  split at q
  case h_2 => exact q.elim
  have : vs = [] := List.length_eq_zero_iff.mp hl.symm
  subst this
  cases e2 : ρ[j]? with
  | none => rw [e2] at q; exact q.elim
  | some s2 =>
    rw [e2] at q
    cases s2 with
    | own d2 =>
      cases d2 with
      | lst ds =>
        have r0 : R c σ ρ ts H := r
        obtain ⟨p, ds', us, e4, e5, e6, rl⟩ := r0.slot_own e2
        cases e5
        rw [hw] at e4; cases e4
        refine ⟨p, us, rfl, rfl, e6, ?_⟩
        exact q _ _ ((r0.write e2 hw rl.rev upd_same fun a o ha h => by rw [upd_ne ha]; exact h).push_fz rep_non)
      | _ => exact q.elim
    | _ => exact q.elim
/-! a method that only reads: index of flat items -/
def idxF (d : D) : List D → Option Nat
  | [] => none
  | e :: ds => if eqF e d = true then some 0 else (idxF d ds).map (· + 1)
def fIndex (d : D) : List D → Option BR
  | [e] => match d with
    | .lst ds => if flatD e = true ∧ ds.all flatD = true then (idxF e ds).map fun n => .imm (.int (n : Nat)) else none
    | .seq ds => if flatD e = true ∧ ds.all flatD = true then (idxF e ds).map fun n => .imm (.int (n : Nat)) else none
    | _ => none
  | _ => none
theorem idxF_some : ∀ {ds : List D} {n : Nat}, idxF d ds = some n → (∃ z, ds[n]? = some z ∧ eqF z d = true) ∧ ∀ m z, m < n → ds[m]? = some z → eqF z d = false
  | [], n, h => by simp [idxF] at h
  | e :: ds, n, h => by
    simp only [idxF] at h
    split at h
    · rename_i hc
      cases h
      exact ⟨⟨e, rfl, hc⟩, fun m z hm => absurd hm (Nat.not_lt_zero _)⟩
    · rename_i hc
      rw [Option.map_eq_some_iff] at h
      obtain ⟨k, hk, rfl⟩ := h
      obtain ⟨⟨z, h1, h2⟩, h3⟩ := idxF_some hk
      refine ⟨⟨z, by simpa using h1, h2⟩, fun m y hm hy => ?_⟩
      cases m with
      | zero =>
        simp at hy; subst hy
        simpa using hc
      | succ m => exact h3 m y (by omega) (by simpa using hy)
theorem mt_idx {K : PySem.W.Frag} {A : Addr → Prop} {e : D} {u : V} {a : Addr} (hs : SqL K H a vs) (rl : RepL K A H ds vs) (re : RepR K A H e u) (fe : flatD e = true) (fs : ds.all flatD = true) {n : Nat} (h : idxF e ds = some n) (q : Q (.int (n : Nat)) H) : rIndex K (.ref a) [u] H Q := by
  obtain ⟨⟨z, h1, h2⟩, h3⟩ := idxF_some h
  obtain ⟨y, e1, ry⟩ := rl.get h1
  have fz : ∀ {m : Nat} {x : D}, ds[m]? = some x → flatD x = true := fun hx => List.all_eq_true.mp fs _ (List.mem_of_getElem? hx)
  have key := (flat_v fe re).2
  have fl : ∀ {x : D} {xv : V}, flatD x = true → RepR K A H x xv → eqV xv u = eqF x e := fun {x xv} fx rx => by
    have := (flat_v fx rx).2 e u fe re
    -- eqV is symmetric here
    cases x with
    | non => rw [repR_non rx] at this ⊢; cases e with
      | non => rw [repR_non re]; rfl
      | bl b => rw [repR_bl re]; rfl
      | int b => rw [repR_int re]; rfl
      | str b => rw [repR_str re]; rfl
      | _ => simp [flatD] at fe
    | bl b1 => rw [repR_bl rx] at this ⊢; cases e with
      | non => rw [repR_non re]; rfl
      | bl b => rw [repR_bl re]; rfl
      | int b => rw [repR_int re]; rfl
      | str b => rw [repR_str re]; rfl
      | _ => simp [flatD] at fe
    | int b1 => rw [repR_int rx] at this ⊢; cases e with
      | non => rw [repR_non re]; rfl
      | bl b => rw [repR_bl re]; rfl
      | int b => rw [repR_int re]; rfl
      | str b => rw [repR_str re]; rfl
      | _ => simp [flatD] at fe
    | str b1 => rw [repR_str rx] at this ⊢; cases e with
      | non => rw [repR_non re]; rfl
      | bl b => rw [repR_bl re]; rfl
      | int b => rw [repR_int re]; rfl
      | str b => rw [repR_str re]; rfl
      | _ => simp [flatD] at fe
    | _ => simp [flatD] at fx
  refine ⟨a, vs, u, n, y, rfl, rfl, hs, (flat_v fe re).1, (inV_of fe re fs rl).1, e1, by rw [fl (fz h1) ry.root]; exact h2, fun m z' hm hz' => ?_, q⟩
  have hm2 : m < ds.length := by
    have := (List.getElem?_eq_some_iff.mp hz').1
    rw [rl.length] at this; exact this
  have hd : ds[m]? = some ds[m] := by simp [hm2]
  obtain ⟨y2, e2, ry2⟩ := rl.get hd
  rw [hz'] at e2; cases e2
  rw [fl (fz hd) ry2.root]
  exact h3 m _ hm hd
def isL : D → Bool
  | .lst _ => true
  | .seq _ => true
  | _ => false
def idx2 (s : SV) (ss : List SV) : M SV := fun ρ => match con ρ s, cons ρ ss with
  | some d, some es => bres (fIndex d es) ρ
  | _, _ => none
def mIndex (mo : M SV) (ma : M (List SV)) : M SV := mo.bnd fun s => fun ρ => match con ρ s with
  | some d => if isL d = true then (ma.bnd (idx2 s)) ρ else none
  | none => none
theorem bindA1 {m : M (List SV)} {f : List SV → M SV} {t : SV × V} (r : R c σ ρ (t :: ts) H) (h : PostE c W σ ts Q ((m.bnd f) ρ)) {Q' : List V → Hp → Prop} (k : ∀ svs vs ρ' H', svs.length = vs.length → R c σ ρ' (svs.zip vs ++ t :: ts) H' → PostE c W σ ts Q (f svs ρ') → Q' vs H') : tDA c W m σ H Q' := by
  refine ⟨ρ, t :: ts, r, ?_⟩
  cases e : m ρ with
  | none => rw [bnd_none e] at h; exact h
  | some x =>
    cases x with
    | er x ρ' => rw [bnd_er e] at h; exact fun cls od H' r' q => h cls od H' r'.pop (q.less avr_sub)
    | ok svs ρ' => rw [bnd_some e] at h; exact fun vs H' hl r' => k svs vs ρ' H' hl r' h
theorem pd_index {o : Expr} {m : Str} {apos cpos : Pos} {e : Expr} {es : List Expr} {mo : M SV} {ma : M (List SV)} (ho : PE X o (tDE c W mo)) (ha : PA X (e :: es) (tDA c W ma))
    (h : ∀ t u, PE X o t → PA X (e :: es) u → PE X (.Call (.Attribute o m apos) (e :: es) [] cpos) (tBM X.K "list" (rIndex X.K) t u)) (hK : c.K = X.K := by rfl) : PE X (.Call (.Attribute o m apos) (e :: es) [] cpos) (tDE c W (mIndex mo ma)) := by
  refine pe_imp (h _ _ ho ha) fun σ H Q ⟨ρ, ts, r, q⟩ => bindE r q fun s v ρ1 H1 r1 q1 => ?_
  cases e1 : con ρ1 s with
  | none => rw [e1] at q1; exact q1.elim
  | some d =>
    rw [e1] at q1
    simp only at q1
    split at q1
    case isFalse => exact q1.elim
    rename_i hl
    have rr := r1.con List.mem_cons_self e1
    refine ⟨?_, bindA1 r1 q1 fun svs vs ρ2 H2 hlen r2 q2 => ?_⟩
    · cases d with
      | lst ds =>
        obtain ⟨a, us, rfl, e2, rl⟩ := repR_lst rr
        exact .inl ⟨rfl, us, SqL.of e2⟩
      | seq ds =>
        obtain ⟨a, us, rfl, e2, rl⟩ := repR_seq rr
        exact .inl ⟨rfl, us, hK ▸ e2.sq⟩
      | _ => cases hl
    · unfold idx2 at q2
      cases e2 : con ρ2 s with
      | none => rw [e2] at q2; exact q2.elim
      | some d2 =>
      cases e3 : cons ρ2 svs with
      | none => rw [e2, e3] at q2; exact q2.elim
      | some es2 =>
        rw [e2, e3] at q2
        simp only at q2
        cases e4 : fIndex d2 es2 with
        | none => rw [e4] at q2; exact q2.elim
        | some b =>
          rw [e4] at q2
          have rs := r2.con (List.mem_append_right _ List.mem_cons_self) e2
          have ra := r_cons r2 (fun t ht => List.mem_append_left _ ht) hlen e3
          have fb := fin_br (us := svs.zip vs ++ [(s, v)]) (by rw [List.append_assoc]; exact r2) q2
          have fb2 : BRQ c.K (Avr c σ ρ2 (svs.zip vs ++ (s, v) :: ts)) H2 b Q := by
            have e : svs.zip vs ++ [(s, v)] ++ ts = svs.zip vs ++ (s, v) :: ts := by rw [List.append_assoc]; rfl
            rw [e] at fb; exact fb
          unfold fIndex at e4
          split at e4
          · rename_i e5
            obtain ⟨u, rfl, ru⟩ := repRL1 ra
            split at e4
            · rename_i ds
              split at e4
              · rename_i hc
                rw [Option.map_eq_some_iff] at e4
                obtain ⟨n, en, rfl⟩ := e4
                obtain ⟨a, us, rfl, e6, rl⟩ := repR_lst rs
                exact hK ▸ mt_idx (K := c.K) (SqL.of e6) rl ru hc.1 hc.2 en (fb2 _ (rep_int _))
              · cases e4
            · rename_i ds
              split at e4
              · rename_i hc
                rw [Option.map_eq_some_iff] at e4
                obtain ⟨n, en, rfl⟩ := e4
                obtain ⟨a, us, rfl, e6, rl⟩ := repR_seq rs
                exact hK ▸ mt_idx (K := c.K) e6.sq rl ru hc.1 hc.2 en (fb2 _ (rep_int _))
              · cases e4
            · cases e4
          · cases e4
/-! ### a def's body -/
def outsOf : List Bool → List SV → Option (List SV)
  | [], _ => some []
  | true :: bs, .own d :: ρ => (outsOf bs ρ).map (.own d :: ·)
  | false :: bs, _ :: ρ => (outsOf bs ρ).map (.un :: ·)
  | _, _ => none
def fin (io : List Bool) : Option SR → Option FRes
  | some (.rt (.fz d) ρ) => (outsOf io ρ).map (.ok (.fz d))
  | some (.rt (.own d) ρ) => (outsOf io ρ).map (.ok (.own d))
  | some (.rt (.loc i) ρ) => match ρ[i]? with
    | some (.own d) => (outsOf io (ρ.set i .un)).map (.ok (.own d))
    | some (.fz d) => (outsOf io ρ).map (.ok (.fz d))
    | _ => none
  | some (.nx ρ) => (outsOf io ρ).map (.ok (.fz .non))
  | some (.er e ρ) => (outsOf io ρ).map (.er e)
  | _ => none
def pinOf (io : List Bool) (vs : List V) : Nat → Option V := fun i => if io.getD i false = true then vs[i]? else none
def cxD (K : PySem.W.Frag) (T : Addr → Prop) (H : Hp) (as : List SV) (vs : List V) (cv : Nat → Bool) (io : List Bool) : Fc :=
  { K := K, T := T, H0 := H, W := fun a => a ∈ Own (asP as vs), cv := cv, pin := pinOf io vs }
theorem outs_own : ∀ {io : List Bool} {ρ outs : List SV} {σ : L2.St} {vs : List V}, outsOf io ρ = some outs → vs.length = io.length → ρ.length = σ.length → (∀ i v, pinOf io vs i = some v → σ[i]? = some (some v)) →
    (Own (asP outs vs)).Sublist (Own (ρ.zip σ)) ∧ ∀ x ∈ asP outs vs, x ∈ ρ.zip σ ∨ x.1 = SV.un
  | [], ρ, outs, σ, vs, h, hv, hl, hp => by
    simp only [outsOf, Option.some.injEq] at h
    subst h
    exact ⟨List.nil_sublist _, fun x hx => by simp [asP, tsP] at hx⟩
  | b :: io, [], outs, σ, vs, h, hv, hl, hp => by cases b <;> simp [outsOf] at h
  | b :: io, s :: ρ, outs, [], vs, h, hv, hl, hp => by simp at hl
  | b :: io, s :: ρ, outs, o :: σ, [], h, hv, hl, hp => by simp at hv
  | b :: io, s :: ρ, outs, o :: σ, v :: vs, h, hv, hl, hp => by
    have hp' : ∀ i u, pinOf io vs i = some u → σ[i]? = some (some u) := fun i u e => by
      have := hp (i + 1) u (by simpa [pinOf] using e)
      simpa using this
    have hs : (Own (ρ.zip σ)).Sublist (Own ((s, o) :: ρ.zip σ)) := by
      unfold Own
      rw [List.filterMap_cons]
      split
      · exact List.Sublist.refl _
      · exact List.sublist_cons_self _ _
    cases b with
    | true =>
      cases s with
      | own d =>
        simp only [outsOf, Option.map_eq_some_iff] at h
        obtain ⟨os, ho, rfl⟩ := h
        obtain ⟨i1, i2⟩ := outs_own ho (by simpa using hv) (by simpa using hl) hp'
        have h0 := hp 0 v (by simp [pinOf])
        simp only [List.getElem?_cons_zero, Option.some.injEq] at h0
        subst h0
        refine ⟨?_, fun x hx => ?_⟩
        · show (Own ((SV.own d, some v) :: asP os vs)).Sublist (Own ((SV.own d, some v) :: ρ.zip σ))
          unfold Own at i1 ⊢
          rw [List.filterMap_cons, List.filterMap_cons]
          split
          · exact i1
          · exact i1.cons_cons _
        · rcases List.mem_cons.mp hx with e | hx
          · exact .inl (by rw [e]; exact List.mem_cons_self)
          · exact (i2 x hx).imp (List.mem_cons_of_mem _) id
      | _ => simp [outsOf] at h
    | false =>
      simp only [outsOf, Option.map_eq_some_iff] at h
      obtain ⟨os, ho, rfl⟩ := h
      obtain ⟨i1, i2⟩ := outs_own ho (by simpa using hv) (by simpa using hl) hp'
      refine ⟨?_, fun x hx => ?_⟩
      · show (Own ((SV.un, some v) :: asP os vs)).Sublist (Own ((s, o) :: ρ.zip σ))
        rw [own_cons_un]
        exact i1.trans hs
      · rcases List.mem_cons.mp hx with e | hx
        · exact .inr (by rw [e])
        · exact (i2 x hx).imp (List.mem_cons_of_mem _) id
theorem exit_rep {T : Addr → Prop} {K : PySem.W.Frag} {H0 : Hp} {as outs : List SV} {cv : Nat → Bool} {io : List Bool} (hv : vs.length = io.length) (r : R (cxD K T H0 as vs cv io) σ ρ ts H) {P : Pl} (hP : ∀ x ∈ P, x ∈ tsP ts) (hPs : P.Sublist (tsP ts)) (ho : outsOf io ρ = some outs) (nl : NoLocP P) :
    G { K := K, T := T, H0 := H0, W := fun a => a ∈ Own (asP as vs), cv := fun _ => false, pin := fun _ => none } [] (P ++ asP outs vs) H := by
  obtain ⟨s1, s2⟩ := outs_own ho hv r.len r.g.pn
  have g : G (cxD K T H0 as vs cv io) σ (P ++ asP outs vs) H := by
    refine r.g.sub (fun x hx => ?_) ?_
    · rcases List.mem_append.mp hx with hx | hx
      · exact .inl (List.mem_append_left _ (hP x hx))
      · rcases s2 x hx with z | z
        · exact .inl (List.mem_append_right _ z)
        · obtain ⟨sv, ov⟩ := x
          cases z
          exact .inr trivial
    · rw [own_append, own_append]
      exact (hPs.filterMap _).append s1
  refine ⟨fun x hx => ?_, g.nd, g.fr, g.new, g.tt, fun i v e => by cases e⟩
  have q := g.rs x hx
  obtain ⟨sv, ov⟩ := x
  cases sv with
  | un => trivial
  | fz d => exact q
  | own d => exact q
  | loc i =>
    exfalso
    rcases List.mem_append.mp hx with hx | hx
    · exact nl i ov hx
    · rcases s2 _ hx with z | z
      · exact r.nl i (List.of_mem_zip z).1
      · cases z
/-- the body, from a call's arguments to its end -/
theorem body_ok {K : PySem.W.Frag} {n : Nat} {g : Fn} {m : MS} {N : List Str} {cv : Nat → Bool} {io : List Bool} {E : XK} {We : WX} (hio : io.length = n) (hN : n ≤ N.length) (hm : ∀ as r, as.length = n → g as = some r → fin io (m (as ++ List.replicate (N.length - n) .un)) = some r)
    (hW : ∀ e ρ as, m (as ++ List.replicate (N.length - n) .un) = some (.er e ρ) → as.length = n → g as ≠ none → ∀ cls od σ H, E cls od H → We cls od σ H) (h : spD K n g vs H Q E) :
    ∃ T as, as.length = n ∧ vs.length = n ∧ tDS (cxD K T H as vs cv io) We m { nx := fun _ H' => Q .non H', rt := Q } (L2.start N vs) H := by
  obtain ⟨T, as, la, lv, g0, post⟩ := h
  refine ⟨T, as, la, lv, as ++ List.replicate (N.length - n) .un, [], ?_, ⟨(fun i v h => nomatch h), ?_⟩⟩
  · have hz : (as ++ List.replicate (N.length - n) SV.un).zip (L2.start N vs) = asP as vs ++ (List.replicate (N.length - n) SV.un).zip (List.replicate (N.length - n) (none : Option V)) := by
      unfold L2.start
      rw [lv, List.zip_append (by simp [la, lv])]
      congr 1
      unfold asP tsP
      rw [List.zip_map_right]
      rfl
    have hun : ∀ k : Nat, Own ((List.replicate k SV.un).zip (List.replicate k (none : Option V))) = [] ∧ ∀ x ∈ (List.replicate k SV.un).zip (List.replicate k (none : Option V)), x = (SV.un, none) := fun k => by
      induction k with
      | zero => exact ⟨rfl, fun x hx => by cases hx⟩
      | succ k ih =>
        simp only [List.replicate_succ, List.zip_cons_cons]
        exact ⟨ih.1, fun x hx => (List.mem_cons.mp hx).elim id (ih.2 x)⟩
    refine ⟨?_, fun i hi => ?_, ?_⟩
    · unfold L2.start
      simp [la, lv]
    · rcases List.mem_append.mp hi with z | z
      · obtain ⟨k, hk⟩ := List.getElem?_of_mem z
        have hkl : k < as.length := (List.getElem?_eq_some_iff.mp hk).1
        have hm : (SV.loc i, some (vs[k]'(by omega))) ∈ asP as vs := by
          unfold asP
          refine tsP_mem (t := (SV.loc i, vs[k]'(by omega))) ?_
          refine List.mem_of_getElem? (i := k) ?_
          rw [List.getElem?_zip_eq_some]
          exact ⟨hk, by simp [lv ▸ la ▸ hkl]⟩
        obtain ⟨_, w, _, e⟩ := g0.rs _ hm
        simp at e
      · have := List.eq_of_mem_replicate z
        cases this
    · rw [hz]
      show G _ _ (tsP [] ++ (asP as vs ++ _)) H
      have g1 : G (cxD K T H as vs cv io) (L2.start N vs) (asP as vs) H := by
        refine ⟨fun x hx => ?_, g0.nd, g0.fr, g0.new, g0.tt, fun i v e => ?_⟩
        · have q := g0.rs x hx
          obtain ⟨sv, ov⟩ := x
          cases sv with
          | un => trivial
          | fz d => exact q
          | own d => exact q
          | loc i =>
            obtain ⟨_, w, _, e⟩ := q
            simp at e
        · have e' : (if io.getD i false = true then vs[i]? else none) = some v := e
          split at e'
          · have hi : i < vs.length := (List.getElem?_eq_some_iff.mp e').1
            unfold L2.start
            rw [List.getElem?_append_left (by simpa using hi), List.getElem?_map, e']
            rfl
          · cases e'
      refine G.sub g1 (fun x hx => ?_) ?_
      · rcases List.mem_append.mp hx with hx | hx
        · cases hx
        · rcases List.mem_append.mp hx with hx | hx
          · exact .inl hx
          · rw [(hun _).2 x hx]; exact .inr trivial
      · show (Own (asP as vs ++ _)).Sublist _
        rw [own_append, (hun _).1, List.append_nil]
        exact List.Sublist.refl _
  · have hv : vs.length = io.length := by omega
    cases eg : g as with
    | none => rw [eg] at post; exact post.elim
    | some r =>
      rw [eg] at post
      have hf := hm as r la eg
      cases em : m (as ++ List.replicate (N.length - n) .un) with
      | none => rw [em] at hf; cases hf
      | some x =>
        rw [em] at hf
        cases x with
        | bk ρ => simp [fin] at hf
        | ct ρ => simp [fin] at hf
        | nx ρ =>
          simp only [fin, Option.map_eq_some_iff] at hf
          obtain ⟨os, ho, rfl⟩ := hf
          intro σ' H' r'
          exact post _ _ (exit_rep (P := [(.fz .non, some .non)]) hv (r'.push_fz (v := .non) rep_non) (fun x hx => hx) (List.Sublist.refl _) ho (fun i o z => by simp at z))
        | rt sv ρ =>
          intro σ' v H' r'
          cases sv with
          | un => simp [fin] at hf
          | fz d =>
            simp only [fin, Option.map_eq_some_iff] at hf
            obtain ⟨os, ho, rfl⟩ := hf
            exact post _ _ (exit_rep (P := [(.fz d, some v)]) hv r' (fun x hx => hx) (List.Sublist.refl _) ho (fun i o z => by simp at z))
          | own d =>
            simp only [fin, Option.map_eq_some_iff] at hf
            obtain ⟨os, ho, rfl⟩ := hf
            exact post _ _ (exit_rep (P := [(.own d, some v)]) hv r' (fun x hx => hx) (List.Sublist.refl _) ho (fun i o z => by simp at z))
          | loc i =>
            simp only [fin] at hf
            cases ei : ρ[i]? with
            | none => rw [ei] at hf; cases hf
            | some s =>
              rw [ei] at hf
              cases s with
              | own d =>
                simp only [Option.map_eq_some_iff] at hf
                obtain ⟨os, ho, rfl⟩ := hf
                exact post _ _ (exit_rep (P := [(.own d, some v)]) hv (r'.take ei) (fun x hx => hx) (List.Sublist.refl _) ho (fun i o z => by simp at z))
              | fz d =>
                simp only [Option.map_eq_some_iff] at hf
                obtain ⟨os, ho, rfl⟩ := hf
                exact post _ _ (exit_rep (P := [(.fz d, some v)]) hv (r'.loc_fz ei) (fun x hx => hx) (List.Sublist.refl _) ho (fun i o z => by simp at z))
              | _ => cases hf
        | er e ρ =>
          simp only [fin, Option.map_eq_some_iff] at hf
          obtain ⟨os, ho, rfl⟩ := hf
          intro σ' cls od H' r' z
          refine hW e ρ as em la (by rw [eg]; simp) cls od σ' H' (post cls od H' ?_ ?_)
          · have := exit_rep (P := []) hv r' (fun x hx => by cases hx) (List.nil_sublist _) ho (fun i o z => by cases z)
            exact this
          · refine z.less fun a w => ?_
            rcases w with w | w
            · exact .inl w
            · exact .inr ((outs_own ho hv r'.len r'.g.pn).1.subset w)
def fin0 (io : List Bool) : Option SR → Option FRes
  | some (.er _ _) => none
  | r => fin io r
theorem fin0_fin {io : List Bool} {r : Option SR} {x : FRes} (h : fin0 io r = some x) : fin io r = some x := by
  unfold fin0 at h
  split at h
  · cases h
  · exact h
/-- a def out of which no exception comes -/
theorem fn_ok0 {P : Program} {w : World} {K : PySem.W.Frag} {mg : Str → Option Value} {base : Heap} {x qual : Str} {st : Stmt} {f : Addr} {fd : FuncData} {N ps : List Str} {k n : Nat} {g : Fn} {m : MS} (cv : Nat → Bool) (io : List Bool) (F : Fun K x qual st f fd) (S : FnScope N ps (defScope st))
    (hp : ps.length = n) (hio : io.length = n) (hN : n ≤ N.length)
    (hb : ∀ (cdv : Value) (A : Around) (outer : List Env) (s : Shared) (H : Hp) (E : XK) (T : Addr → Prop) (as : List SV) (vs : List V), Room k (A.deeper (envOfC qual (defScope st) s.heap.objs.size f cdv)) →
      PSs (cxOf CX0 P w K mg base N qual (defScope st) f cdv A outer s H E).nox (defBody st) (tDS (cxD K T H as vs cv io) W0 m))
    (hm : ∀ as r, as.length = n → g as = some r → fin0 io (m (as ++ List.replicate (N.length - n) .un)) = some r) : FnOk P w K mg base CX0 (k + 1) f fd ps (spD K n g) := by
  refine F.ok S (fun vs H Q E h => ?_) (fun cdv A outer s H vs Q E hr h => ?_)
  · obtain ⟨T, as, _, lv, _⟩ := h
    rw [hp]; exact lv
  · obtain ⟨T, as, la, lv, t⟩ := body_ok (cv := cv) (We := W0) (N := N) hio hN (fun as r la eg => fin0_fin (hm as r la eg)) (fun e ρ as em la hg cls od σ H' z => by
      cases eg : g as with
      | none => exact absurd eg hg
      | some r =>
        have := hm as r la eg
        rw [em] at this
        cases this) h
    exact ⟨_, hb cdv A outer s H E T as vs hr, t⟩
/-- a def that may raise -/
theorem fn_okX {P : Program} {w : World} {K : PySem.W.Frag} {mg : Str → Option Value} {base : Heap} {x qual : Str} {st : Stmt} {f : Addr} {fd : FuncData} {N ps : List Str} {k n : Nat} {g : Fn} {m : MS} (cv : Nat → Bool) (io : List Bool) (F : Fun K x qual st f fd) (S : FnScope N ps (defScope st))
    (hp : ps.length = n) (hio : io.length = n) (hN : n ≤ N.length)
    (hb : ∀ (cdv : Value) (A : Around) (outer : List Env) (s : Shared) (H : Hp) (E : XK) (T : Addr → Prop) (as : List SV) (vs : List V), Room k (A.deeper (envOfC qual (defScope st) s.heap.objs.size f cdv)) →
      PSs (cxOf (L2.CX P w) P w K mg base N qual (defScope st) f cdv A outer s H E) (defBody st) (tDS (cxD K T H as vs cv io) (fun cls od _ H => E cls od H) m))
    (hm : ∀ as r, as.length = n → g as = some r → fin io (m (as ++ List.replicate (N.length - n) .un)) = some r) : FnOk P w K mg base (L2.CX P w) (k + 1) f fd ps (spD K n g) := by
  refine F.okX S (fun vs H Q E h => ?_) (fun cdv A outer s H vs Q E hr h => ?_)
  · obtain ⟨T, as, _, lv, _⟩ := h
    rw [hp]; exact lv
  · obtain ⟨T, as, la, lv, t⟩ := body_ok (cv := cv) (We := fun cls od _ H => E cls od H) (N := N) hio hN hm (fun e ρ as em la hg cls od σ H' z => z) h
    exact ⟨_, hb cdv A outer s H E T as vs hr, t⟩
/-- one, two slots of a comprehension -/
theorem own1 {P : Nat → Prop} {a : Str × Nat} (h : P a.2) : ∀ i ∈ [a].map (·.2), P i := fun i hi => by
  simp at hi; rw [hi]; exact h
theorem own2 {P : Nat → Prop} {a b : Str × Nat} (h : P a.2) (h' : P b.2) : ∀ i ∈ [a, b].map (·.2), P i := fun i hi => by
  simp at hi
  rcases hi with e | e <;> (rw [e]; assumption)
theorem own3 {P : Nat → Prop} {a b d : Str × Nat} (h : P a.2) (h' : P b.2) (h3 : P d.2) : ∀ i ∈ [a, b, d].map (·.2), P i := fun i hi => by
  simp at hi
  rcases hi with e | e | e <;> (rw [e]; assumption)
end
end DL

set_option Elab.async false
set_option linter.all false
set_option maxRecDepth 100000
/-! The data layer: names for what a program prints. -/
namespace DL
open PySem PySem.Spec PyProof.Rows L2
theorem b_len : bootBuiltins "len" = some (.builtin "len") := by decide +kernel
theorem b_int : bootBuiltins "int" = some (.type "int") := by decide +kernel
theorem b_abs : bootBuiltins "abs" = some (.builtin "abs") := by decide +kernel
theorem b_max : bootBuiltins "max" = some (.builtin "max") := by decide +kernel
theorem b_min : bootBuiltins "min" = some (.builtin "min") := by decide +kernel
theorem b_list : bootBuiltins "list" = some (.type "list") := by decide +kernel
theorem b_tuple : bootBuiltins "tuple" = some (.type "tuple") := by decide +kernel
theorem b_sorted : bootBuiltins "sorted" = some (.builtin "sorted") := by decide +kernel
theorem b_sum : bootBuiltins "sum" = some (.builtin "sum") := by decide +kernel
theorem b_all : bootBuiltins "all" = some (.builtin "all") := by decide +kernel
theorem b_any : bootBuiltins "any" = some (.builtin "any") := by decide +kernel
theorem b_str : bootBuiltins "str" = some (.type "str") := by decide +kernel
theorem b_bool : bootBuiltins "bool" = some (.type "bool") := by decide +kernel
theorem b_dict : bootBuiltins "dict" = some (.type "dict") := by decide +kernel
theorem b_isinstance : bootBuiltins "isinstance" = some (.builtin "isinstance") := by decide +kernel
theorem b_range : bootBuiltins "range" = some (.type "range") := by decide +kernel
section
variable {c : Fc} {W : WX} {X : Cx} {pos : Pos}
theorem pd_biR {e : Expr} {ma : M (List SV)} {r : List V → Hp → VK → Prop} {f : List D → Option BR} (hs : CallB c.K r f) (h : PE X e (tCB r (tDA c W ma))) : PE X e (tDE c W (mCallB f ma)) := pe_imp h fun σ H Q z => readB hs z
/-! list(range(..)) -/
def rgL (a b : Int) (ρ : List SV) : Option (Res SV) := if (rgOk a && rgOk b && nlt (b - a).toNat (2 ^ 24 + 1)) = true then some (.ok (.own (.lst (rgD a (b - a).toNat))) ρ) else none
def mListRg1 (m : M SV) : M SV := m.bnd fun s => fun ρ => match s with
  | .fz (.int j) => rgL 0 j ρ
  | _ => none
def mListRg2 (m n : M SV) : M SV := m.bnd fun s => n.bnd fun u => fun ρ => match s, u with
  | .fz (.int i), .fz (.int j) => rgL i j ρ
  | _, _ => none
theorem rgV_rep {K : PySem.W.Frag} {A : Addr → Prop} {H : Hp} (a b : Int) : RepL K A H (rgD a (b - a).toNat) (rgV a b) := by
  unfold rgD rgV
  induction (List.range (b - a).toNat) with
  | nil => exact RepL.nil
  | cons x xs ih => exact RepL.cons (rep_int _) ih
theorem rg_fin {σ : L2.St} {ρ : List SV} {ts : Ts} {H : Hp} {Q : VK} {a b : Int} (r : R c σ ρ ts H) (q : PostE c W σ ts Q (rgL a b ρ)) : RgOk a b ∧ ∀ p, H p = none → Q (.ref p) (upd H p (.lst (rgV a b))) := by
  unfold rgL at q
  split at q
  · rename_i hc
    simp only [rgOk_iff, nlt_iff, Bool.and_eq_true] at hc
    exact ⟨⟨by omega, hc.1.1.2, by omega, hc.1.2.2, by omega⟩, fun p hp => fin_new r (rgV_rep a b) hp q⟩
  · exact q.elim
theorem pd_listRg1 {a : Expr} {m : M SV} {p p2 pos2 : Pos} (hc : X.calm = true) (hg : Gl X "list") (hm : X.mg "list" = none) (hgr : Gl X "range") (hmr : X.mg "range" = none) (ha : PE X a (tDE c W m))
    (na : starEach [.Call (.Name "range" p2) [a] [] pos2] X.env = (false, eval (.Call (.Name "range" p2) [a] [] pos2) X.env) :: starEach [] X.env := by rfl) (nb : starEach [a] X.env = (false, eval a X.env) :: starEach [] X.env := by rfl) :
    PE X (.Call (.Name "list" p) [.Call (.Name "range" p2) [a] [] pos2] [] pos) (tDE c W (mListRg1 m)) := by
  refine pe_imp (pe_listRg hc hg hm (prg_1 hgr hmr ha nb) na) fun σ H Q ⟨ρ, ts, r, q⟩ => bindE r q fun s v ρ1 H1 r1 q1 => ?_
  split at q1
  · rename_i j
    have hv : v = .int j := by have z := r1.top_fz; simpa only [Rep] using z
    obtain ⟨h1, h2⟩ := rg_fin r1.pop q1
    exact ⟨j, hv, h1, h2⟩
  · exact q1.elim
theorem pd_listRg2 {a b : Expr} {m n : M SV} {p p2 pos2 : Pos} (hc : X.calm = true) (hg : Gl X "list") (hm : X.mg "list" = none) (hgr : Gl X "range") (hmr : X.mg "range" = none) (ha : PE X a (tDE c W m)) (hb : PE X b (tDE c W n))
    (na : starEach [.Call (.Name "range" p2) [a, b] [] pos2] X.env = (false, eval (.Call (.Name "range" p2) [a, b] [] pos2) X.env) :: starEach [] X.env := by rfl) (n1 : starEach [a, b] X.env = (false, eval a X.env) :: starEach [b] X.env := by rfl)
    (n2 : starEach [b] X.env = (false, eval b X.env) :: starEach [] X.env := by rfl) (n3 : (backTo pos2 (starEach [b] X.env)).any (·.1) = false := by rfl) :
    PE X (.Call (.Name "list" p) [.Call (.Name "range" p2) [a, b] [] pos2] [] pos) (tDE c W (mListRg2 m n)) := by
  refine pe_imp (pe_listRg hc hg hm (prg_2 hgr hmr ha hb n1 n2 n3) na) fun σ H Q ⟨ρ, ts, r, q⟩ => bindE r q fun s v ρ1 H1 r1 q1 => bindE1 r1 q1 fun s2 v2 ρ2 H2 r2 q2 => ?_
  split at q2
  · rename_i i j
    have hv2 : v2 = .int j := by have z := r2.top_fz; simpa only [Rep] using z
    have hv1 : v = .int i := by have z := r2.pop.top_fz; simpa only [Rep] using z
    obtain ⟨h1, h2⟩ := rg_fin r2.pop.pop q2
    exact ⟨i, j, hv1, hv2, h1, h2⟩
  · exact q2.elim
end
theorem mulOk_r {i j : Int} (h1 : -18446744073709551616 < j) (h2 : j < 18446744073709551616) : mulOk i j = true := by
  have h : nlt j.natAbs (2 ^ 64) = true := nlt_iff.mpr (by omega)
  unfold mulOk
  rw [h]
  simp
theorem mulOk_l {i j : Int} (h1 : -18446744073709551616 < i) (h2 : i < 18446744073709551616) : mulOk i j = true := by
  have h : nlt i.natAbs (2 ^ 64) = true := nlt_iff.mpr (by omega)
  unfold mulOk
  rw [h]
  simp
theorem divOk_r {i j : Int} (h1 : 0 < j) (h2 : j < 1073741824) : divOk i j = true := by
  unfold divOk
  rw [decide_eq_true h1, nlt_iff.mpr (show j.natAbs < 1073741824 by omega)]
  simp
theorem modOk_r {i j : Int} (h1 : 0 < j) : modOk i j = true := by
  unfold modOk
  exact decide_eq_true h1
theorem rgOk_of {i : Int} (h1 : -4611686018427387904 < i) (h2 : i < 4611686018427387904) : rgOk i = true := rgOk_iff.mpr ⟨h1, h2⟩
end DL

set_option Elab.async false
set_option linter.all false
set_option maxRecDepth 100000
/-! The data layer: loops as folds; lists of numbers. -/
namespace DL
open PySem PySem.Spec PyProof.Rows L2
theorem mLoop_fold {α : Type} (st : α → List SV) (step : α → D → α) (I : α → Prop) {g : SV → List SV → Option (List SV)} {b : MS} : ∀ {ds : List D} (_ : ∀ a d, d ∈ ds → I a → (∃ ρ1, g (.fz d) (st a) = some ρ1 ∧ (b ρ1 = some (.nx (st (step a d))) ∨ b ρ1 = some (.ct (st (step a d))))) ∧ I (step a d)) (a : α) (_ : I a),
    mLoop g b ds (st a) = some (.nx (st (ds.foldl step a))) ∧ I (ds.foldl step a)
  | [], h, a, ha => ⟨rfl, ha⟩
  | d :: ds, h, a, ha => by
    obtain ⟨⟨ρ1, h1, h2⟩, h3⟩ := h a d List.mem_cons_self ha
    have ih := mLoop_fold st step I (g := g) (b := b) (ds := ds) (fun a d hd => h a d (List.mem_cons_of_mem _ hd)) (step a d) h3
    refine ⟨?_, ih.2⟩
    simp only [mLoop, h1]
    rcases h2 with h2 | h2 <;> (rw [h2]; exact ih.1)
theorem mLoop_nil {g : SV → List SV → Option (List SV)} {b : MS} {ρ : List SV} : mLoop g b [] ρ = some (.nx ρ) := rfl
theorem mLoop_nx {g : SV → List SV → Option (List SV)} {b : MS} {d : D} {ds : List D} {ρ ρ1 ρ2 : List SV} (h1 : g (.fz d) ρ = some ρ1) (h2 : b ρ1 = some (.nx ρ2)) : mLoop g b (d :: ds) ρ = mLoop g b ds ρ2 := by simp only [mLoop, h1, h2]
theorem mLoop_ct {g : SV → List SV → Option (List SV)} {b : MS} {d : D} {ds : List D} {ρ ρ1 ρ2 : List SV} (h1 : g (.fz d) ρ = some ρ1) (h2 : b ρ1 = some (.ct ρ2)) : mLoop g b (d :: ds) ρ = mLoop g b ds ρ2 := by simp only [mLoop, h1, h2]
theorem mLoop_rt {g : SV → List SV → Option (List SV)} {b : MS} {d : D} {ds : List D} {ρ ρ1 ρ2 : List SV} {sv : SV} (h1 : g (.fz d) ρ = some ρ1) (h2 : b ρ1 = some (.rt sv ρ2)) : mLoop g b (d :: ds) ρ = some (.rt sv ρ2) := by simp only [mLoop, h1, h2]
/-- a comprehension that leaves the slots as they are -/
theorem lcLoop_map {ns : List Nat} {g : SV → List SV → Option (List SV)} {t : M Bool} {e : M SV} {F : D → D} {ρ : List SV} : ∀ {ds acc : List D}, (∀ d ∈ ds, ∃ ρ1 ρ2 ρ3 ρ4 sv, g (.fz d) ρ = some ρ1 ∧ t ρ1 = some (.ok true ρ2) ∧ e ρ2 = some (.ok sv ρ3) ∧ esc sv ρ3 = some (.ok (F d) ρ4) ∧ wipeD ρ4 ns = ρ) →
    acc.length + ds.length ≤ sizeLine → lcLoop ns g t e ds ρ acc = some (acc ++ ds.map F, ρ)
  | [], acc, h, hl => by simp [lcLoop]
  | d :: ds, acc, h, hl => by
    obtain ⟨ρ1, ρ2, ρ3, ρ4, sv, h1, h2, h3, h4, h5⟩ := h d List.mem_cons_self
    have hl' : acc.length < sizeLine := by simp at hl; omega
    simp only [lcLoop, h1, h2, h3, h4, if_pos hl', h5]
    rw [lcLoop_map (fun d hd => h d (List.mem_cons_of_mem _ hd)) (by simp at hl ⊢; omega)]
    simp
theorem pd_yes {X : Cx} {c : Fc} {W : WX} : PTs X [] (tDT c W (DL.ret true)) := by
  refine ⟨fun pins s σ H Q I ⟨ρ, ts, r, q⟩ => pts_nil.run pins s σ H Q I (q H r)⟩
theorem intsOf_some : ∀ {ds : List D} {ns : List Int}, intsOf ds = some ns → ds = ns.map .int
  | [], ns, h => by simp only [intsOf, Option.some.injEq] at h; subst h; rfl
  | .int i :: ds, ns, h => by
    simp only [intsOf, Option.map_eq_some_iff] at h
    obtain ⟨ms, e, rfl⟩ := h
    rw [intsOf_some e]; rfl
  | .non :: _, _, h => by simp [intsOf] at h
  | .bl _ :: _, _, h => by simp [intsOf] at h
  | .str _ :: _, _, h => by simp [intsOf] at h
  | .tup _ :: _, _, h => by simp [intsOf] at h
  | .lst _ :: _, _, h => by simp [intsOf] at h
  | .seq _ :: _, _, h => by simp [intsOf] at h
  | .obj _ _ _ :: _, _, h => by simp [intsOf] at h
theorem atI_of {α : Type} {xs : List α} {i : Int} (h0 : 0 ≤ i) : atI xs i = xs[i.toNat]? := by
  unfold atI ixN
  rw [if_pos h0]
  by_cases h : i < xs.length
  · rw [if_pos h]; rfl
  · rw [if_neg h]
    rw [List.getElem?_eq_none (by omega)]; rfl
theorem ixN_of {n : Nat} {i : Int} (h0 : 0 ≤ i) (h : i < n) : ixN n i = some i.toNat := by
  unfold ixN
  rw [if_pos h0, if_pos h]
theorem cutD_take (ds : List D) (k : Nat) : cutD ds none (some (k : Int)) = ds.take k := by
  unfold cutD
  simp only [HT.sIx, List.drop_zero, Nat.sub_zero]
  have hk : ¬ ((k : Int) < 0) := by omega
  simp only [hk, if_false]
  rw [show (k : Int).toNat = k by omega]
  by_cases h : k ≤ ds.length
  · rw [Nat.min_eq_left h]
  · rw [Nat.min_eq_right (by omega), List.take_of_length_le (Nat.le_refl _), List.take_of_length_le (by omega)]
def cvL (l : List Nat) : Nat → Bool := fun i => l.contains i
theorem cvL_nil {i : Nat} : cvL [] i = false := rfl
theorem cvL_cons {a i : Nat} {l : List Nat} : cvL (a :: l) i = (i == a || cvL l i) := List.contains_cons
theorem ixN_lit {n k : Nat} : ixN n (no_index (OfNat.ofNat k)) = if (OfNat.ofNat k : Nat) < n then some (OfNat.ofNat k : Nat) else none := by
  have h0 : (0 : Int) ≤ (@OfNat.ofNat Int k (@instOfNat k)) := Int.natCast_nonneg k
  unfold ixN
  rw [if_pos h0]
  have e : (@OfNat.ofNat Int k (@instOfNat k)) = ((k : Nat) : Int) := rfl
  rw [e]
  by_cases h : k < n
  · rw [if_pos (by omega), if_pos (show (OfNat.ofNat k : Nat) < n from h)]; rfl
  · rw [if_neg (by omega), if_neg (show ¬ (OfNat.ofNat k : Nat) < n from h)]
theorem atI_lit {α : Type} {xs : List α} {k : Nat} : atI xs (no_index (OfNat.ofNat k)) = xs[(OfNat.ofNat k : Nat)]? := by
  have h0 : (0 : Int) ≤ (@OfNat.ofNat Int k (@instOfNat k)) := Int.natCast_nonneg k
  rw [atI_of h0]
  rfl
theorem cast_lit {k : Nat} : ((no_index (OfNat.ofNat k) : Nat) : Int) = (@OfNat.ofNat Int k (@instOfNat k)) := rfl
theorem size_le {k : Nat} : ((no_index (OfNat.ofNat k) : Nat) ≤ sizeLine) = ((OfNat.ofNat k : Nat) ≤ 16777216) := by rw [sizeLine_eq]
theorem size_lt {k : Nat} : ((no_index (OfNat.ofNat k) : Nat) < sizeLine) = ((OfNat.ofNat k : Nat) < 16777216) := by rw [sizeLine_eq]
theorem powOk_of {i j : Int} (h0 : 0 ≤ i) (h1 : i < 18446744073709551616) (h2 : 0 ≤ j) (h3 : j ≤ 1000000) : powOk i j = true := by
  unfold powOk
  rw [decide_eq_true h2, nlt_iff.mpr (show j.natAbs < 1000001 by omega), nlt_iff.mpr (show i.natAbs < 2 ^ 64 by omega)]
  rfl
def rgI (lo : Int) (n : Nat) : List Int := (List.range n).map fun k => lo + (k : Nat)
theorem rgD_map {lo : Int} {n : Nat} : rgD lo n = (rgI lo n).map .int := by
  unfold rgD rgI
  rw [List.map_map]
  rfl
theorem mem_rgI {lo : Int} {n : Nat} {x : Int} : x ∈ rgI lo n ↔ lo ≤ x ∧ x < lo + n := by
  unfold rgI
  simp only [List.mem_map, List.mem_range]
  constructor
  · rintro ⟨k, h, rfl⟩; omega
  · rintro ⟨h1, h2⟩; exact ⟨(x - lo).toNat, by omega, by omega⟩
theorem rgI_succ {lo : Int} {n : Nat} : rgI lo (n + 1) = lo :: rgI (lo + 1) n := by
  unfold rgI
  rw [List.range_succ_eq_map, List.map_cons, List.map_map]
  simp only [Int.ofNat_zero, Int.add_zero, List.cons.injEq, true_and]
  apply List.map_congr_left
  intro a _
  simp only [Function.comp]
  omega
theorem rgI_zero {lo : Int} : rgI lo 0 = [] := rfl
theorem mSeq_nx {a b : MS} {ρ ρ' : List SV} (h : a ρ = some (.nx ρ')) : mSeq a b ρ = b ρ' := by simp only [mSeq, h]
theorem mSeq_rt {a b : MS} {ρ ρ' : List SV} {sv : SV} (h : a ρ = some (.rt sv ρ')) : mSeq a b ρ = some (.rt sv ρ') := by simp only [mSeq, h]
theorem log2_lt {i : Int} (h0 : 0 ≤ i) (h1 : i < 10715086071862673209484250490600018105614048117055336074437503883703510511249361224931983788156958581275946729175531468251871452856923140435984577574698574803934567774824230985421074605062371141877954182153046474983581941267398767559165543946077062914571196477686542167660429831652624386837205668069376) : i.natAbs.log2 < 1000 := by
  by_cases hz : i.natAbs = 0
  · rw [hz]; decide
  · exact (Nat.log2_lt hz).mpr (by omega)
theorem mulOk_big {i j : Int} (h0 : 0 ≤ i) (h1 : i < 10715086071862673209484250490600018105614048117055336074437503883703510511249361224931983788156958581275946729175531468251871452856923140435984577574698574803934567774824230985421074605062371141877954182153046474983581941267398767559165543946077062914571196477686542167660429831652624386837205668069376) (h2 : 0 ≤ j) (h3 : j < 10715086071862673209484250490600018105614048117055336074437503883703510511249361224931983788156958581275946729175531468251871452856923140435984577574698574803934567774824230985421074605062371141877954182153046474983581941267398767559165543946077062914571196477686542167660429831652624386837205668069376) : mulOk i j = true := by
  have a := log2_lt h0 h1
  have b := log2_lt h2 h3
  unfold mulOk
  rw [nlt_iff.mpr (show i.natAbs.log2 + j.natAbs.log2 < 1000000 by omega)]
  simp
/-! ### the law itself, from its body to the row -/
theorem law_fn {P : Program} {w : World} {K : PySem.W.Frag} {mg : Str → Option Value} {base : Heap} {L : Nat} {st : Stmt} {fa f : Addr} {fda fd : FuncData} {ps : List Str} {g : Fn} (F : Fun K "law" "law" st fa fda) (hm : mg "law" = some (.ref fa)) (b : Binds K fda ["script"] []) (Fo : FnOk P w K mg base CX0 L f fd ps (spD K 1 g)) (hf : mg "law" = some (.ref f)) : True := trivial
/-- a script in, True out -/
theorem law_end {K : PySem.W.Frag} {H : Hp} {a : Addr} {ns : List Int} {g : Fn} {Q : VK} {E : XK} (hg1 : g [.fz (.lst (ns.map .int))] = some (.ok (.fz (.bl true)) [.un])) (hg2 : g [.fz (.seq (ns.map .int))] = some (.ok (.fz (.bl true)) [.un])) (hS : SqL K H a (ns.map V.int)) (hq : ∀ H', Q (.bl true) H') : spD K 1 g [.ref a] H Q E := by
  have fin : ∀ {d : D} (c : Fc) (H' : Hp) (v : V), G c [] ((.fz (.bl true), some v) :: asP [SV.un] [.ref a]) H' → Q v H' := fun c H' v h => by
    obtain ⟨w, e, q⟩ := h.rs _ List.mem_cons_self
    cases e
    simp only [Rep] at q
    subst q
    exact hq H'
  rcases sqL_cases hS with h | h
  · refine ⟨fun _ => False, [.fz (.lst (ns.map .int))], rfl, rfl, ⟨fun x hx => ?_, List.nodup_nil, fun a o e _ => e, fun a h => (nomatch h), fun a h => h.elim, fun i v e => (nomatch e)⟩, ?_⟩
    · have hx' : x = (SV.fz (.lst (ns.map .int)), some (.ref a)) := by simpa [asP, tsP] using hx
      rw [hx']
      refine ⟨.ref a, rfl, ?_⟩
      simp only [Rep]
      exact ⟨a, _, rfl, ⟨h, fun z => z.elim id (fun y => by cases y)⟩, intsOf_rep⟩
    · rw [hg1]
      exact fun v H' h => fin (d := .non) _ H' v h
  · refine ⟨fun _ => False, [.fz (.seq (ns.map .int))], rfl, rfl, ⟨fun x hx => ?_, List.nodup_nil, fun a o e _ => e, fun a h => (nomatch h), fun a h => h.elim, fun i v e => (nomatch e)⟩, ?_⟩
    · have hx' : x = (SV.fz (.seq (ns.map .int)), some (.ref a)) := by simpa [asP, tsP] using hx
      rw [hx']
      refine ⟨.ref a, rfl, ?_⟩
      simp only [Rep]
      exact ⟨a, _, rfl, h, intsOf_rep⟩
    · rw [hg2]
      exact fun v H' h => fin (d := .non) _ H' v h
theorem fn_none {P : Program} {w : World} {K : PySem.W.Frag} {mg : Str → Option Value} {base : Heap} {CX : CXT} {k : Nat} {f : Addr} {fd : FuncData} {ps : List Str} {n : Nat} (hp : ps.length = n) : FnOk P w K mg base CX k f fd ps (spD K n fun _ => none) :=
  ⟨fun vs H Q E ⟨T, as, _, lv, _⟩ => by rw [hp]; exact lv, fun A outer s H args us vs Q E hr he hb hv ⟨T, as, _, _, _, z⟩ => z.elim⟩
end DL

set_option Elab.async false
set_option linter.all false
set_option maxRecDepth 100000
/-! The data layer: enumerate over a list or a tuple. -/
namespace DL
open PySem PySem.Spec PyProof.Rows L2
def tupIt (t : Addr) : Obj := { cls := .type "tuple_iterator", data := .fields #[.ref t, .int 0 0] }
def enumOb (i : Addr) : Obj := { cls := .type "enumerate", data := .fields #[.none, .bool false, .ref i, rawInt 0, .none, .none] }
set_option maxHeartbeats 1000000 in
theorem enumT_new (t : Addr) (vs : Array Value) : Meets (Builtin.«enumerate.__new__» ⟨[.type "enumerate", .ref t], []⟩) (fun _ R s => s.heap.IsTuple t vs ∧
      R (.ok (.ret (.ref (s.heap.push (tupIt t)).objs.size))) { s with heap := (s.heap.push (tupIt t)).push (enumOb s.heap.objs.size) }) :=
  .of_wp fun pr wo Ar Re st z => by
    obtain ⟨hp, gl, dd, tk, os⟩ := st
    obtain ⟨z1, z⟩ := z
    have sub := sub_enumerate
    have ask : ∀ {Ar' : Around} {Er : Value → Shared → Prop} {Qr : Value → Shared → Prop}, Qr (.ref hp.objs.size) ⟨hp.push (tupIt t), gl, dd, tk, os⟩ → wpAny (model pr wo) Ar' (pyIter (.ref t)) Qr Er ⟨hp, gl, dd, tk, os⟩ := fun y => wpAny_pyIter_tuple z1 y
    obtain ⟨ot, h1, h2, kn, h3⟩ := id z1
    wp_walk using AutoSeq1.wpAny_loadPart' h1, ask
    refine wpAny_stack_any fun fs => wpAny_pure ?_
    split
    · rename_i cc _ _ _ _ _
      cases (cc == Value.type "enumerate") <;>
      · wp_walk using AutoSeq1.wpAny_loadPart' h1, ask
        exact ⟨_, rfl, z⟩
    · wp_walk using AutoSeq1.wpAny_loadPart' h1, ask
      exact ⟨_, rfl, z⟩
section
variable {prog : Program} {w : World} {A : Around} {E : Value → Shared → Prop} {s : Shared}
theorem call_enumT {t : Addr} {vs : Array Value} {Q : Value → Shared → Prop} (hT : s.heap.IsTuple t vs)
    (h : ∀ hp, IsEnum hp (s.heap.objs.size + 1) s.heap.objs.size 0 .none → hp.IsTupleIter s.heap.objs.size t 0 → (∀ b o, s.heap.get? b = some o → hp.get? b = some o) → Q (.ref (s.heap.objs.size + 1)) { s with heap := hp }) :
    wpAny (model prog w) A (call (.type "enumerate") [.ref t]) Q E s := by
  refine callType_new F.called_enumerate (by decide) (F.typeCall_enumerate_1 _) (F.newCall_enumerate_1 _) (fun ob => F.args_object_init_2 ob _) F.entry_enumerate_new (enumT_new t vs) ⟨hT, ?_⟩
  have sz : (s.heap.push (tupIt t)).objs.size = s.heap.objs.size + 1 := Heap.size_push ..
  show _ ∧ _
  rw [sz]
  have en : IsEnum ((s.heap.push (tupIt t)).push (enumOb s.heap.objs.size)) (s.heap.objs.size + 1) s.heap.objs.size 0 .none := by
    have y := Heap.get?_push_size (s.heap.push (tupIt t)) (o := enumOb s.heap.objs.size) rfl
    rw [sz] at y
    exact y
  exact ⟨⟨_, en, rfl⟩, h _ en ⟨_, Heap.get?_push_of_some _ (Heap.get?_push_size _ rfl), rfl, rfl⟩ fun b o y => Heap.get?_push_of_some _ (Heap.get?_push_of_some _ y)⟩
end
/-- the tuple at a, each item in a new pair with its place -/
def IteT (K : PySem.W.Frag) (a : Addr) : It :=
  ⟨fun i H => ∃ (xs : List V) (x : V), SqT K H a xs ∧ xs[i]? = some x, fun i H v H' => ∃ T x, v = .ref T ∧ H T = none ∧ H' = upd H T (.tup [.int (i : Nat), x]) ∧ ∀ xs, SqT K H a xs → xs[i]? = some x, fun i H => ∃ xs : List V, SqT K H a xs ∧ xs.length ≤ i⟩
theorem enumT_end {prog : Program} {w : World} {A : Around} {E : Value → Shared → Prop} {s : Shared} {e it t : Addr} {i : Nat} {vs : Array Value} {old : Value} {c : Int} {Q : Option Value → Shared → Prop} (hh : A.handled = none) (he : IsEnum s.heap e it c old) (hit : s.heap.IsTupleIter it t i) (ht : s.heap.IsTuple t vs) (hx : vs[i]? = none)
    (hQ : ∀ hp, Heap.ExtBut it s.heap hp → Q none { s with heap := hp }) : wpAny (model prog w) A (pyNext (.ref e)) Q E s := by
  have hT : s.TypeIs (.ref e) "enumerate" := ⟨_, he, rfl⟩
  unfold pyNext
  refine wpAny_bind (wpAny_attempt (wpAny_callSpecial?_slot (name := Str.ofString "__next__") hT F.slot_enumerate_next (wpAny_call_entry F.slot_enumerate_next hT F.entry_enumerate_next ?_ (F.args_enumerate_next_1 _))))
  show wpAny _ _ (field (.ref e) 2 >>= _) _ _ _
  refine wpAny_bind (wpAny_field he rfl (x := .ref it) rfl ?_)
  refine wpAny_bind (wpAny_nextOf_tuple_end hh hit ht hx fun hp x k y => ?_)
  obtain ⟨o, ho, hc⟩ := y
  refine wpAny_bind (wpAny_isInstance (T := "StopIteration") (b := true) ⟨o, ho, hc⟩ isSubtype_stop ?_)
  exact wpAny_pure (hQ _ k)
theorem turn_enumT {P : Program} {w : World} {K : PySem.W.Frag} {elts : List Expr} {kk : Nat} {tpos : Pos} (a e it : Addr) :
    Turn P w K (.Tuple elts kk tpos) (IteT K a) [e, it] e (fun i h => (∃ old, IsEnum h e it ((i : Nat) : Int) old) ∧ h.IsTupleIter it a i ∧ e ≠ it) where
  mem := List.mem_cons_self
  obj := fun i h st b hb => by
    obtain ⟨⟨old, he⟩, ⟨o, ho, hc, hd⟩, _⟩ := st
    rcases List.mem_cons.mp hb with rfl | hb
    · exact ⟨_, he, fun v q => nomatch q⟩
    · rw [List.mem_singleton.mp hb]
      exact ⟨o, ho, fun v q => by rw [hd] at q; cases q⟩
  keep := fun i h h' st k => by
    obtain ⟨⟨old, he⟩, hi, hne⟩ := st
    exact ⟨⟨old, k e List.mem_cons_self _ he⟩, hi.at fun o q => k it (List.mem_cons_of_mem _ List.mem_cons_self) o q, hne⟩
  item := by
    intro X hP hw hK hc i pins s σ H E I hf st hg
    subst hP hw hK
    obtain ⟨⟨old, he⟩, hit, hne⟩ := st
    obtain ⟨xs, x, hq, hx⟩ := hg
    obtain ⟨its, rv, p, hz⟩ := I.tuple hq
    obtain ⟨u, hu, ru⟩ := rv.get hx
    have hel : e < s.heap.objs.size := Heap.lt_size he
    have hil : it < s.heap.objs.size := by obtain ⟨_, q, _⟩ := hit; exact Heap.lt_size q
    have hai : a ≠ it := by
      intro z
      subst z
      obtain ⟨_, q1, q2, _⟩ := hit
      obtain ⟨_, q3, q4, _⟩ := id p
      rw [q1] at q3; cases q3
      rw [q2] at q4
      injection q4 with q5
      exact absurd q5 (by decide)
    have hae : e ≠ a := by
      intro z
      subst z
      obtain ⟨_, q3, q4, _⟩ := id p
      have q1 := id he
      unfold IsEnum at q1
      rw [q1] at q3; cases q3
      injection q4 with q5
      exact absurd q5 (by decide)
    have hlt : i < its.toArray.size := by
      have := List.getElem?_eq_some_iff.mp hu
      obtain ⟨y, _⟩ := this
      simpa using y
    refine wpAny_pyNext_enum_itemD (Draws.tuple (by rw [show X.A.in1.handled = X.A.handled from rfl]; exact I.ok.hd hc) it a hai its.toArray) he ⟨hit, p⟩ hlt hne (by
      intro z
      rcases List.mem_cons.mp z with z | z
      · exact hne z
      · exact hae (List.mem_singleton.mp z)) fun x' h' tk hP ho hst hT hsz hk => ?_
    have ex : x' = u := by
      have hP : its.toArray[i]? = some x' := hP
      rw [List.getElem?_toArray, hu] at hP
      cases hP
      rfl
    subst ex
    refine ⟨_, rfl, wpAny_letOwnedTupleGo_enum (s := { s with heap := h', toks := tk + 1 }) ho fun h'' he' sb => ?_⟩
    have hT2 : h''.get? s.heap.objs.size = some { cls := .type "tuple", data := .seq #[.int i tk, x'] } := (sb.2 _ (Nat.ne_of_gt hel)).trans hT
    have new : ObjOk X.prog X.w (upd H s.heap.objs.size (.tup [.int (i : Nat), x])) h'' s.heap.objs.size (.tup [.int (i : Nat), x]) :=
      ⟨by show 2 ≤ sizeLine; decide, [.int i tk, x'], .cons ⟨_, rfl⟩ (.cons ru .nil), ⟨_, hT2, rfl, _, rfl⟩⟩
    have I1 : Inv X pins σ (upd H s.heap.objs.size (.tup [.int (i : Nat), x])) { s with heap := h'', toks := tk + 1 } :=
      I.turnedNew (ch := [e, it]) (fun b o hb q => (sb.2 b (fun z => hb (z ▸ List.mem_cons_self))).trans (hk b o (fun z => hb (z ▸ List.mem_cons_self)) (fun z => hb (z ▸ List.mem_cons_of_mem _ List.mem_cons_self)) q)) hf (Nat.le_refl _) new
    refine ⟨.ref s.heap.objs.size, _, I1, rfl, ⟨_, x, rfl, I.hok.fresh (Nat.le_refl _), rfl, fun ys hy => by rw [I.tuple_inj hy hq]; exact hx⟩, ⟨⟨x', ?_⟩, hst.1.at fun o q => (sb.2 it (Ne.symm hne)).trans q, hne⟩, fun b hb => ?_⟩
    · have e1 : ((i + 1 : Nat) : Int) = (i : Int) + 1 := by omega
      rw [e1]; exact he'
    · have hb' : b < s.heap.objs.size := by
        rcases List.mem_cons.mp hb with rfl | hb
        · exact hel
        · rw [List.mem_singleton.mp hb]; exact hil
      rw [upd_ne (Nat.ne_of_lt hb')]
      exact (hf b hb).1
  done := by
    intro X hP hw hK hc i pins s σ H E I hf st hg
    subst hP hw hK
    obtain ⟨⟨old, he⟩, hit, hne⟩ := st
    obtain ⟨xs, hq, hx⟩ := hg
    obtain ⟨its, rv, p, hz⟩ := I.tuple hq
    obtain ⟨f0, f1, f2, f3, f4, f5⟩ := hf it (List.mem_cons_of_mem _ List.mem_cons_self)
    have hl := rv.length
    refine enumT_end (I.ok.hd hc) he hit p (by simp; omega) fun h' eb => ⟨rfl, I.turned (t' := s.toks) (fun b o hb q => eb b o hb q) f0 f1 f3 f4 f5⟩
  self := fun A i s Q E st h => let ⟨⟨_, he⟩, _⟩ := st; wpAny_pyIter_enum he h
def iEnumA (K : PySem.W.Frag) (ta : TA) : TI := fun σ H R => ta σ H fun vs H1 => ∃ a, vs = [.ref a] ∧ (((∃ xs, SqL K H1 a xs) ∧ R (Ite K a) H1) ∨ ((∃ xs, SqT K H1 a xs) ∧ R (IteT K a) H1))
theorem pi_enumA {X : Cx} {e : Expr} {ta : TA} {p pos tpos : Pos} {elts : List Expr} {kk : Nat} (hg : Gl X "enumerate") (hm : X.mg "enumerate" = none) (ha : PA X [e] ta) (hs : starEach [e] X.env = [(false, eval e X.env)] := by rfl) :
    PI X (.Tuple elts kk tpos) (.Call (.Name "enumerate" p) [e] [] pos) (iEnumA X.K ta) := by
  refine ⟨fun pins s σ H R I h => ?_⟩
  refine Call_ (ld_blt I hg hm boot_enumerate (PyProof.Rows.callWith_type1 (thn (ha.run pos pins s σ H _ I h) fun us s1 ⟨vs, H1, I1, r1, q1⟩ => ?_) hs rfl))
  obtain ⟨a, ex, q⟩ := q1
  subst ex
  obtain ⟨u, rfl, ru⟩ := vals1 r1
  obtain rfl : u = Value.ref a := ru
  have two : ∀ b, b ∈ [s1.heap.objs.size + 1, s1.heap.objs.size] → FpOk X pins H1 b := fun b hb => by
    have hle : s1.heap.objs.size ≤ b := by
      rcases List.mem_cons.mp hb with rfl | hb
      · exact Nat.le_add_right _ _
      · rw [List.mem_singleton.mp hb]
        exact Nat.le_refl _
    exact I1.fpOk hle (I1.hok.fresh hle)
  rcases q with ⟨⟨xs, hq⟩, q⟩ | ⟨⟨xs, hq⟩, q⟩
  · obtain ⟨its, rv, p', hz⟩ := I1.list hq
    refine call_enumerate_list p'.isList fun hp he hit hsz hk => wpAny_pyIter_enum he ?_
    exact ⟨s1.heap.objs.size + 1, _, _, _, H1, rfl, I1.kept (t' := s1.toks) hk, turn_enum a _ s1.heap.objs.size, ⟨⟨.none, he⟩, hit, Nat.succ_ne_self _⟩, two, q⟩
  · obtain ⟨its, rv, p', hz⟩ := I1.tuple hq
    refine call_enumT (show s1.heap.IsTuple a its.toArray from p') fun hp he hit hk => wpAny_pyIter_enum he ?_
    exact ⟨s1.heap.objs.size + 1, _, _, _, H1, rfl, I1.kept (t' := s1.toks) hk, turn_enumT a _ s1.heap.objs.size, ⟨⟨.none, he⟩, hit, Nat.succ_ne_self _⟩, two, q⟩
def enumD (k : Nat) : List D → List D
  | [] => []
  | d :: ds => .tup [.int k, d] :: enumD (k + 1) ds
theorem enumD_get : ∀ {k i : Nat} {ds : List D}, (enumD k ds)[i]? = ds[i]?.map fun d => .tup [.int ((k + i : Nat) : Int), d]
  | k, i, [] => by simp [enumD]
  | k, 0, d :: ds => by simp [enumD]
  | k, i + 1, d :: ds => by
    simp only [enumD, List.getElem?_cons_succ]
    rw [enumD_get (ds := ds)]
    rw [show k + 1 + i = k + (i + 1) by omega]
theorem enumD_len : ∀ {k : Nat} {ds : List D}, (enumD k ds).length = ds.length
  | _, [] => rfl
  | _, d :: ds => by simp [enumD, enumD_len]
section
variable {c : Fc} {W : WX} {X : Cx} {pos : Pos} {ds : List D}
theorem r_pair {σ : L2.St} {ρ : List SV} {ts : Ts} {H : Hp} {d : D} {x : V} {i : Int} {T : Addr} (r : R c σ ρ ts H) (q : Rep c.K (Avr c σ ρ ts) H d x) (hT : H T = none) : R c σ ρ ((.fz (.tup [.int i, d]), .ref T) :: ts) (upd H T (.tup [.int i, x])) :=
  fin_tup (W := fun _ _ _ _ => True) (Q := fun v H' => R c σ ρ ((.fz (.tup [.int i, d]), v) :: ts) H') r (RepL.cons (rep_int _) (RepL.cons q RepL.nil)) hT fun v H' r' => r'
theorem jd_enumL {a : Addr} : JD c (Ite c.K a) (enumD 0 ds) [(.fz (.lst ds), .ref a)] := by
  intro σ ρ ts H i r ht
  obtain ⟨w, e, q⟩ := r.g.rs _ (List.mem_append_left _ (tsP_mem (ht _ List.mem_cons_self)))
  cases e
  simp only [Rep] at q
  obtain ⟨a', vs, e1, e2, rl⟩ := q
  cases e1
  refine ⟨fun h => ⟨vs, SqL.of e2.1, by rw [rl.length]; rw [enumD_len] at h; exact h⟩, fun d hd => ?_⟩
  rw [enumD_get] at hd
  obtain ⟨d0, hd0, rfl⟩ := Option.map_eq_some_iff.mp hd
  obtain ⟨x, hx, rx⟩ := rl.get hd0
  refine ⟨⟨vs, x, SqL.of e2.1, hx⟩, fun y H' hy => ?_⟩
  obtain ⟨T, x', rfl, hT, rfl, hy⟩ := hy
  have := hy vs (SqL.of e2.1)
  rw [hx] at this; cases this
  rw [Nat.zero_add]
  exact r_pair r rx hT
theorem jd_enumS {a : Addr} : JD c (Ite c.K a) (enumD 0 ds) [(.fz (.seq ds), .ref a)] := by
  intro σ ρ ts H i r ht
  obtain ⟨w, e, q⟩ := r.g.rs _ (List.mem_append_left _ (tsP_mem (ht _ List.mem_cons_self)))
  cases e
  simp only [Rep] at q
  obtain ⟨a', vs, e1, e2, rl⟩ := q
  cases e1
  refine ⟨fun h => ⟨vs, e2.sq, by rw [rl.length]; rw [enumD_len] at h; exact h⟩, fun d hd => ?_⟩
  rw [enumD_get] at hd
  obtain ⟨d0, hd0, rfl⟩ := Option.map_eq_some_iff.mp hd
  obtain ⟨x, hx, rx⟩ := rl.get hd0
  refine ⟨⟨vs, x, e2.sq, hx⟩, fun y H' hy => ?_⟩
  obtain ⟨T, x', rfl, hT, rfl, hy⟩ := hy
  have := hy vs e2.sq
  rw [hx] at this; cases this
  rw [Nat.zero_add]
  exact r_pair r rx hT
theorem jd_enumT {a : Addr} : JD c (IteT c.K a) (enumD 0 ds) [(.fz (.tup ds), .ref a)] := by
  intro σ ρ ts H i r ht
  obtain ⟨w, e, q⟩ := r.g.rs _ (List.mem_append_left _ (tsP_mem (ht _ List.mem_cons_self)))
  cases e
  simp only [Rep] at q
  obtain ⟨a', vs, e1, e2, rl⟩ := q
  cases e1
  refine ⟨fun h => ⟨vs, e2, by rw [rl.length]; rw [enumD_len] at h; exact h⟩, fun d hd => ?_⟩
  rw [enumD_get] at hd
  obtain ⟨d0, hd0, rfl⟩ := Option.map_eq_some_iff.mp hd
  obtain ⟨x, hx, rx⟩ := rl.get hd0
  refine ⟨⟨vs, x, e2, hx⟩, fun y H' hy => ?_⟩
  obtain ⟨T, x', rfl, hT, rfl, hy⟩ := hy
  have := hy vs e2
  rw [hx] at this; cases this
  rw [Nat.zero_add]
  exact r_pair r rx hT
def mEnum (m : M SV) : M (List D) := m.bnd fun s => (esc s).bnd fun d => fun ρ => match itD d with
  | some ds => some (.ok (enumD 0 ds) ρ)
  | none => none
theorem pd_enum {elts : List Expr} {kk : Nat} {p tpos : Pos} {l : Expr} {m : M SV} (hl : PE X l (tDE c W m)) (hg : Gl X "enumerate") (hm : X.mg "enumerate" = none) (hK : c.K = X.K := by rfl)
    (h1 : starEach [l] X.env = (false, eval l X.env) :: starEach [] X.env := by rfl) (h2 : starEach [l] X.env = [(false, eval l X.env)] := by rfl) : PI X (.Tuple elts kk tpos) (.Call (.Name "enumerate" p) [l] [] pos) (tDI c W (mEnum m)) := by
  refine pi_imp (pi_enumA hg hm (pa_cons hl pa_nil h1) h2) fun σ H Q ⟨ρ, ts, r, q⟩ => bindI r q fun sv v ρ1 H1 r1 q1 => ?_
  cases e : esc sv ρ1 with
  | none => rw [bnd_none e] at q1; exact q1.elim
  | some x =>
    cases x with
    | er x _ => exact absurd e esc_er
    | ok d ρ2 =>
      rw [bnd_some e] at q1
      have r2 := r_esc r1 e
      have t := r2.top_fz
      cases d with
      | lst ds =>
        simp only [Rep] at t
        obtain ⟨a, vs, rfl, e2, rl⟩ := t
        exact ⟨a, rfl, .inl ⟨⟨vs, SqL.of e2.1⟩, q1 _ _ [_] r2 noLoc1 (hK ▸ jd_enumL)⟩⟩
      | seq ds =>
        simp only [Rep] at t
        obtain ⟨a, vs, rfl, e2, rl⟩ := t
        exact ⟨a, rfl, .inl ⟨⟨vs, hK ▸ e2.sq⟩, q1 _ _ [_] r2 noLoc1 (hK ▸ jd_enumS)⟩⟩
      | tup ds =>
        simp only [Rep] at t
        obtain ⟨a, vs, rfl, e2, rl⟩ := t
        exact ⟨a, rfl, .inr ⟨⟨vs, hK ▸ e2⟩, q1 _ _ [_] r2 noLoc1 (hK ▸ jd_enumT)⟩⟩
      | _ => exact q1.elim
end
end DL

set_option Elab.async false
set_option linter.all false
set_option maxRecDepth 100000
/-! The data layer: sorted of pairs of ints. -/
namespace DL
open PySem PySem.Spec PyProof.Rows L2
def pairOf : D → Option (Int × Int)
  | .tup [.int i, .int j] => some (i, j)
  | _ => none
def pairsOf : List D → Option (List (Int × Int))
  | [] => some []
  | d :: ds => match pairOf d, pairsOf ds with
    | some p, some ps => some (p :: ps)
    | _, _ => none
def prD (p : Int × Int) : D := .tup [.int p.1, .int p.2]
def leP (p q : Int × Int) : Prop := p.1 < q.1 ∨ (p.1 = q.1 ∧ p.2 ≤ q.2)
instance (p q : Int × Int) : Decidable (leP p q) := inferInstanceAs (Decidable (_ ∨ _))
def insP (p : Int × Int) : List (Int × Int) → List (Int × Int)
  | [] => [p]
  | q :: qs => if leP p q then p :: q :: qs else q :: insP p qs
def sortP : List (Int × Int) → List (Int × Int)
  | [] => []
  | p :: ps => insP p (sortP ps)
theorem insP_perm (p : Int × Int) : ∀ qs, (insP p qs).Perm (p :: qs)
  | [] => List.Perm.refl _
  | q :: qs => by
    unfold insP
    split
    · exact List.Perm.refl _
    · exact ((insP_perm p qs).cons q).trans (List.Perm.swap _ _ _)
theorem sortP_perm : ∀ ps, (sortP ps).Perm ps
  | [] => List.Perm.refl _
  | p :: ps => (insP_perm p (sortP ps)).trans ((sortP_perm ps).cons p)
theorem insP_le (p : Int × Int) : ∀ qs, qs.Pairwise leP → (insP p qs).Pairwise leP
  | [], _ => List.pairwise_singleton _ _
  | q :: qs, h => by
    obtain ⟨h1, h2⟩ := List.pairwise_cons.mp h
    unfold insP
    split
    · rename_i hc
      refine List.pairwise_cons.mpr ⟨fun x hx => ?_, h⟩
      rcases List.mem_cons.mp hx with rfl | hx
      · exact hc
      · have := h1 x hx
        unfold leP at hc this ⊢
        omega
    · rename_i hc
      refine List.pairwise_cons.mpr ⟨fun x hx => ?_, insP_le p qs h2⟩
      rcases List.mem_cons.mp ((insP_perm p qs).mem_iff.mp hx) with rfl | hx
      · unfold leP at hc ⊢
        omega
      · exact h1 x hx
theorem sortP_le : ∀ ps, (sortP ps).Pairwise leP
  | [] => List.Pairwise.nil
  | p :: ps => insP_le p _ (sortP_le ps)
theorem sortP_uniq {a b : List (Int × Int)} (hp : a.Perm b) (ha : a.Pairwise leP) (hb : b.Pairwise leP) : a = b := by
  refine hp.eq_of_pairwise (fun x y _ _ h1 h2 => ?_) ha hb
  obtain ⟨x1, x2⟩ := x
  obtain ⟨y1, y2⟩ := y
  unfold leP at h1 h2
  simp only [Prod.mk.injEq]
  simp only at h1 h2
  omega
theorem pairOf_some {d : D} {p : Int × Int} (h : pairOf d = some p) : d = prD p := by
  unfold pairOf at h
  split at h
  · cases h; rfl
  · cases h
theorem pairsOf_some : ∀ {ds : List D} {ps : List (Int × Int)}, pairsOf ds = some ps → ds = ps.map prD
  | [], ps, h => by cases h; rfl
  | d :: ds, ps, h => by
    unfold pairsOf at h
    split at h
    · rename_i p qs e1 e2
      cases h
      rw [pairOf_some e1, pairsOf_some e2]
      rfl
    · cases h
theorem pairsOf_map : ∀ ps : List (Int × Int), pairsOf (ps.map prD) = some ps
  | [] => rfl
  | p :: ps => by
    simp only [List.map_cons, pairsOf, pairsOf_map ps]
    rfl
def AN : Addr → Prop := fun _ => False
theorem pairs_any {K : PySem.W.Frag} {A A' : Addr → Prop} {H : Hp} : ∀ {ps : List (Int × Int)} {vs : List V}, RepL K A H (ps.map prD) vs → RepL K A' H (ps.map prD) vs
  | [], vs, h => h
  | p :: ps, vs, h => by
    simp only [List.map_cons, RepL] at h ⊢
    obtain ⟨v, vs', rfl, h1, h2⟩ := h
    refine ⟨v, vs', rfl, ?_, pairs_any h2⟩
    simp only [prD, Rep, RepL] at h1 ⊢
    exact h1
/-- some function from the refs to their pairs -/
theorem pairs_fun {K : PySem.W.Frag} {A : Addr → Prop} {H : Hp} : ∀ {ps : List (Int × Int)} {vs : List V}, RepL K A H (ps.map prD) vs → ∀ x ∈ vs, ∃ (t : Addr) (p : Int × Int), x = V.ref t ∧ SqT K H t [.int p.1, .int p.2]
  | [], vs, h, x, hx => by simp only [List.map_nil, RepL] at h; subst h; cases hx
  | p :: ps, vs, h, x, hx => by
    simp only [List.map_cons, RepL] at h
    obtain ⟨v, vs', rfl, h1, h2⟩ := h
    rcases List.mem_cons.mp hx with rfl | hx
    · simp only [prD, Rep, RepL] at h1
      obtain ⟨a, ws, rfl, hs, w1, ws1, rfl, h3, w2, ws2, rfl, h4, rfl⟩ := h1
      subst h3 h4
      exact ⟨a, p, rfl, hs⟩
    · exact pairs_fun h2 x hx
theorem pairs_same {K : PySem.W.Frag} {A : Addr → Prop} {H : Hp} (k : V → Int × Int) : ∀ {ps : List (Int × Int)} {vs : List V}, RepL K A H (ps.map prD) vs → (∀ (t : Addr) (p : Int × Int), SqT K H t [.int p.1, .int p.2] → k (.ref t) = p) → vs.map k = ps
  | [], vs, h, hk => by simp only [List.map_nil, RepL] at h; subst h; rfl
  | p :: ps, vs, h, hk => by
    simp only [List.map_cons, RepL] at h
    obtain ⟨v, vs', rfl, h1, h2⟩ := h
    rw [List.map_cons, pairs_same k h2 hk]
    simp only [prD, Rep, RepL] at h1
    obtain ⟨a, ws, rfl, hs, w1, ws1, rfl, h3, w2, ws2, rfl, h4, rfl⟩ := h1
    subst h3 h4
    rw [hk a p hs]
theorem pairs_rep {K : PySem.W.Frag} {A : Addr → Prop} {H : Hp} {k : V → Int × Int} : ∀ {vs : List V}, (∀ x ∈ vs, ∃ t, x = V.ref t ∧ SqT K H t [.int (k x).1, .int (k x).2]) → RepL K A H ((vs.map k).map prD) vs
  | [], _ => RepL.nil
  | v :: vs, h => by
    obtain ⟨t, rfl, ht⟩ := h v List.mem_cons_self
    exact RepL.cons (rep_tup ht (RepL.cons (rep_int _) (RepL.cons (rep_int _) RepL.nil))) (pairs_rep fun x hx => h x (List.mem_cons_of_mem _ hx))
def rSortedPS (K : PySem.W.Frag) : List V → Hp → VK → Prop := fun vs H Q => ∃ (a : Addr) (xs : List V) (ps : List (Int × Int)), vs = [V.ref a] ∧ SqL K H a xs ∧ RepL K AN H (ps.map prD) xs ∧
  ∀ ys p, RepL K AN H ((sortP ps).map prD) ys → H p = none → Q (.ref p) (upd H p (.lst ys))
theorem cr_sortedPS {X : Cx} : CallR X (.builtin "sorted") (rSortedPS X.K) := by
  intro pins s σ H vs us Q I r h
  obtain ⟨a, xs, ps, rfl, hs, hps, q⟩ := h
  obtain ⟨its, rv, hl, hz⟩ := I.list hs
  obtain ⟨u, rfl, ru⟩ := vals1 r
  obtain rfl : u = Value.ref a := ru
  have inj : ∀ t (p p' : Int × Int), SqT X.K H t [.int p.1, .int p.2] → SqT X.K H t [.int p'.1, .int p'.2] → p = p' := by
    rintro t ⟨p1, p2⟩ ⟨p3, p4⟩ h1 h2
    have := I.tuple_inj h1 h2
    simp only [List.cons.injEq, V.int.injEq, and_true] at this
    simp only [Prod.mk.injEq]
    exact this
  have hk : ∃ k : V → Int × Int, ∀ (t : Addr) (p : Int × Int), SqT X.K H t [.int p.1, .int p.2] → k (.ref t) = p := by
    refine ⟨fun v => match v with
      | .ref t => Classical.epsilon fun p : Int × Int => SqT X.K H t [.int p.1, .int p.2]
      | _ => (0, 0), fun t p h => ?_⟩
    exact inj t _ _ (Classical.epsilon_spec (p := fun p : Int × Int => SqT X.K H t [.int p.1, .int p.2]) ⟨p, h⟩) h
  obtain ⟨k, hk⟩ := hk
  have hx : ∀ x ∈ xs, ∃ t, x = V.ref t ∧ SqT X.K H t [.int (k x).1, .int (k x).2] := fun x hx => by
    obtain ⟨t, p, rfl, hs⟩ := pairs_fun hps x hx
    refine ⟨t, rfl, ?_⟩
    rw [hk t p hs]
    exact hs
  have e5 : xs.map k = ps := pairs_same k hps hk
  obtain ⟨e1, e2⟩ := refs_back rv fun x m => (hx x m).imp fun t e => e.1
  refine SrtO.sorted_pairsO (k := fun u => k (backV u)) hl.isList (by rw [← rv.length]; exact hz) (fun v hv => ?_) fun hp d out h1 h2 kp hd hn => ?_
  · obtain ⟨t, rfl⟩ := e2 v hv
    obtain ⟨t2, e, ht⟩ := hx (V.ref t) (by rw [e1]; exact List.mem_map.mpr ⟨_, hv, rfl⟩)
    cases e
    obtain ⟨its2, r2, p2, _⟩ := I.tuple ht
    obtain ⟨u1, u2, rfl, ri, rj⟩ := vals2 r2
    obtain ⟨k1, rfl⟩ := ri
    obtain ⟨k2, rfl⟩ := rj
    obtain ⟨o, g1, g2, n, g3⟩ := p2
    exact ⟨t, o, k1, k2, n, rfl, g1, g2, g3⟩
  · have h3 : ∀ u ∈ out, ∃ b, u = Value.ref b := fun u hu => e2 u (h2.perm.mem_iff.mp hu)
    obtain ⟨n, hn⟩ := hn
    have hpm : (out.map backV).Perm xs := by
      rw [e1]
      exact h2.perm.map backV
    have e6 : (out.map backV).map k = sortP ps := by
      refine sortP_uniq ?_ ?_ (sortP_le ps)
      · rw [← e5]
        exact (hpm.map k).trans (sortP_perm _).symm
      · refine List.pairwise_map.mpr (List.pairwise_map.mpr (List.Pairwise.imp ?_ h1))
        intro x y hxy
        have := SrtO.lexB_no.mp hxy
        unfold leP
        omega
    have e7 := pairs_rep (A := AN) (fun x hx' => hx x (hpm.mem_iff.mp hx'))
    rw [e6] at e7
    refine ⟨.ref d, upd H d (.lst (out.map backV)), I.laid (t' := s.toks) kp hd ⟨?_, out, n, vals_back h3, hn⟩, rfl, q _ d e7 (I.hok.fresh hd)⟩
    rw [hpm.length_eq]
    exact hz
def fSortedIP : List D → Option BR
  | [.lst ds] => match intsOf ds with
    | some ns => some (.newL ((sortI ns).map .int))
    | none => (pairsOf ds).map fun ps => .newL ((sortP ps).map prD)
  | _ => none
def rSortedIP (K : PySem.W.Frag) : List V → Hp → VK → Prop := fun vs H Q => rSortedI K vs H Q ∨ rSortedPS K vs H Q
theorem cr_sortedIP {X : Cx} : CallR X (.builtin "sorted") (rSortedIP X.K) := CallR.or cr_sortedI cr_sortedPS
theorem callB_sortedIP {K : PySem.W.Frag} : CallB K (rSortedIP K) fSortedIP := by
  intro A H ds vs b Q h e q
  unfold fSortedIP at e
  split at e
  · rename_i ds
    split at e
    · rename_i ns en
      refine .inl (callB_sorted A H [.lst ds] vs b Q h ?_ q)
      show (intsOf ds).map _ = _
      rw [en]
      exact e
    · rename_i en
      rw [Option.map_eq_some_iff] at e
      obtain ⟨ps, e1, rfl⟩ := e
      obtain ⟨v, rfl, r⟩ := repRL1 h
      obtain ⟨a, us, rfl, e2, r⟩ := repR_lst r
      have e3 := pairsOf_some e1
      subst e3
      exact .inr ⟨a, us, ps, rfl, SqL.of e2, pairs_any r, fun ys p hr hn => q _ p (pairs_any hr) hn⟩
  · cases e
end DL

set_option Elab.async false
set_option linter.all false
set_option maxRecDepth 100000
/-! The data layer: a comprehension whose target is a tuple of own names. -/
namespace DL
open PySem PySem.Spec PyProof.Rows L2
section
variable {c : Fc} {W : WX} {X : Cx} {pos : Pos} {ns : List Nat}
structure CGs (c : Fc) (ns : List Nat) (t : TGs) (gs : List D → List SV → Option (List SV)) : Prop where
  go : ∀ (σ : L2.St) (ρ ρ' : List SV) (ts : Ts) (H : Hp) (ds : List D) (vs : List V) (Q : L2.St → Hp → Prop), R c σ ρ ts H → RepL c.K (Avr c σ ρ ts) H ds vs → gs ds ρ = some ρ' → (∀ σ', wipe σ' ns = wipe σ ns → R c σ' ρ' ts H → Q σ' H) → t vs σ H Q
theorem cgs_nil : CGs c ns gNil gsNil := ⟨fun σ ρ ρ' ts H ds vs Q r rl e k => by
  cases ds with
  | nil =>
    simp only [RepL] at rl
    subst rl
    cases e
    exact ⟨rfl, k σ rfl r⟩
  | cons _ _ => cases e⟩
theorem cgs_cons {t : TG} {u : TGs} {g : SV → List SV → Option (List SV)} {gs : List D → List SV → Option (List SV)} (h1 : CG c ns t g) (h2 : CGs c ns u gs) : CGs c ns (gCons t u) (gsCons g gs) := ⟨fun σ ρ ρ' ts H ds vs Q r rl e k => by
  cases ds with
  | nil => cases e
  | cons d ds =>
    have r2 := r_pushs r rl
    have hl := rl.length
    simp only [RepL] at rl
    obtain ⟨v, vs', rfl, q1, qs⟩ := rl
    simp only [gsCons] at e
    cases e1 : g (.fz d) ρ with
    | none => rw [e1] at e; cases e
    | some ρ1 =>
      rw [e1] at e
      refine ⟨v, vs', rfl, h1.go _ _ _ _ _ _ _ _ r2 e1 fun σ1 w1 r1 => ?_⟩
      obtain ⟨r3, q3⟩ := r_pulls (by simp at hl; exact hl.symm) r1
      exact h2.go _ _ _ _ _ _ _ _ r3 q3 e fun σ2 w2 r4 => k σ2 (w2.trans w1) r4⟩
def gTL (K : PySem.W.Frag) (n : Nat) (t : TGs) : TG := fun v σ H Q => gTup K n t v σ H Q ∨ gLst K n t v σ H Q
theorem pg_TL {es : List Expr} {k : Nat} {t : TGs} {n : Nat} (hc : X.calm = true) (h : PGs X es t)
    (hn : (assignEach es X.env).length = n := by rfl) (hst : (assignEach es X.env).findIdx? (·.1) = none := by rfl) : PG X (.Tuple es k pos) (gTL X.K n t) := pg_or (pg_tup hc h hn hst) (pg_lst hc h hn hst)
theorem cg_TL {n : Nat} {t : TGs} {gs : List D → List SV → Option (List SV)} (h : CGs c ns t gs) : CG c ns (gTL c.K n t) (gTupD n gs) := ⟨fun σ ρ ρ' ts H d v Q r e k => by
  have t := r.top_fz
  have fin : ∀ {ds : List D}, (if ds.length = n then gs ds ρ else none) = some ρ' → ds.length = n ∧ gs ds ρ = some ρ' := fun {ds} z => by
    by_cases hl : ds.length = n
    · rw [if_pos hl] at z; exact ⟨hl, z⟩
    · rw [if_neg hl] at z; cases z
  cases d with
  | tup ds =>
    obtain ⟨hl, q⟩ := fin e
    simp only [Rep] at t
    obtain ⟨a, vs, rfl, e2, rl⟩ := t
    exact .inl ⟨a, vs, rfl, e2, by rw [rl.length]; exact hl, h.go _ _ _ _ _ _ _ _ r.pop rl q k⟩
  | lst ds =>
    obtain ⟨hl, q⟩ := fin e
    simp only [Rep] at t
    obtain ⟨a, vs, rfl, e2, rl⟩ := t
    exact .inr ⟨a, vs, rfl, SqL.of e2.1, by rw [rl.length]; exact hl, h.go _ _ _ _ _ _ _ _ r.pop rl q k⟩
  | seq ds =>
    obtain ⟨hl, q⟩ := fin e
    simp only [Rep] at t
    obtain ⟨a, vs, rfl, e2, rl⟩ := t
    exact .inr ⟨a, vs, rfl, e2.sq, by rw [rl.length]; exact hl, h.go _ _ _ _ _ _ _ _ r.pop rl q k⟩
  | _ => cases e⟩
end
end DL

set_option Elab.async false
set_option linter.all false
set_option maxRecDepth 100000
/-! The data layer: loops by an invariant, comprehensions that leave some out. -/
namespace DL
open PySem PySem.Spec PyProof.Rows L2
theorem mLoop_ix {g : SV → List SV → Option (List SV)} {b : MS} : ∀ {ds : List D} {k : Nat} (I : Nat → List SV → Prop) {ρ : List SV}, (∀ i d ρ, ds[i]? = some d → I (k + i) ρ → ∃ ρ1 ρ2, g (.fz d) ρ = some ρ1 ∧ b ρ1 = some (.nx ρ2) ∧ I (k + i + 1) ρ2) → I k ρ → ∃ ρ', mLoop g b ds ρ = some (.nx ρ') ∧ I (k + ds.length) ρ'
  | [], k, I, ρ, _, h0 => ⟨ρ, rfl, h0⟩
  | d :: ds, k, I, ρ, h, h0 => by
    obtain ⟨ρ1, ρ2, h1, h2, h3⟩ := h 0 d ρ rfl h0
    obtain ⟨ρ', h4, h5⟩ := mLoop_ix (g := g) (b := b) (ds := ds) (k := k + 1) I (ρ := ρ2) (fun i d' ρ hd hi => by
      have := h (i + 1) d' ρ (by simpa using hd) (by rw [show k + (i + 1) = k + 1 + i by omega]; exact hi)
      rw [show k + (i + 1) + 1 = k + 1 + i + 1 by omega] at this
      exact this) h3
    refine ⟨ρ', by rw [mLoop_nx h1 h2]; exact h4, ?_⟩
    rw [List.length_cons, show k + (ds.length + 1) = k + 1 + ds.length by omega]
    exact h5
theorem mLoop_inv {g : SV → List SV → Option (List SV)} {b : MS} {ds : List D} (I : List SV → Prop) {ρ : List SV} (h : ∀ d ρ, d ∈ ds → I ρ → ∃ ρ1 ρ2, g (.fz d) ρ = some ρ1 ∧ b ρ1 = some (.nx ρ2) ∧ I ρ2) (h0 : I ρ) : ∃ ρ', mLoop g b ds ρ = some (.nx ρ') ∧ I ρ' :=
  mLoop_ix (k := 0) (fun _ => I) (fun i d ρ hd hi => h d ρ (List.mem_of_getElem? hd) hi) h0
theorem lcLoop_filter {ns : List Nat} {g : SV → List SV → Option (List SV)} {t : M Bool} {e : M SV} {p : D → Bool} {F : D → D} {ρ : List SV} : ∀ {ds acc : List D}, (∀ d ∈ ds, ∃ ρ1 ρ2, g (.fz d) ρ = some ρ1 ∧ t ρ1 = some (.ok (p d) ρ2) ∧ (p d = true → ∃ ρ3 ρ4 sv, e ρ2 = some (.ok sv ρ3) ∧ esc sv ρ3 = some (.ok (F d) ρ4) ∧ wipeD ρ4 ns = ρ) ∧ (p d = false → wipeD ρ2 ns = ρ)) →
    acc.length + ds.length ≤ sizeLine → lcLoop ns g t e ds ρ acc = some (acc ++ (ds.filter p).map F, ρ)
  | [], acc, h, hl => by simp [lcLoop]
  | d :: ds, acc, h, hl => by
    obtain ⟨ρ1, ρ2, h1, h2, h3, h4⟩ := h d List.mem_cons_self
    have hl' : acc.length < sizeLine := by simp at hl; omega
    have ih := fun acc' => lcLoop_filter (ns := ns) (g := g) (t := t) (e := e) (p := p) (F := F) (ρ := ρ) (ds := ds) (acc := acc') (fun d hd => h d (List.mem_cons_of_mem _ hd))
    cases hp : p d with
    | false =>
      rw [hp] at h2
      simp only [lcLoop, h1, h2]
      rw [h4 hp, ih acc (by simp at hl; omega), List.filter_cons_of_neg (by rw [hp]; decide)]
    | true =>
      rw [hp] at h2
      obtain ⟨ρ3, ρ4, sv, h5, h6, h7⟩ := h3 hp
      simp only [lcLoop, h1, h2, h5, h6, if_pos hl', h7]
      rw [ih _ (by simp at hl ⊢; omega), List.filter_cons_of_pos hp]
      simp
theorem lcLoop_inv {ns : List Nat} {g : SV → List SV → Option (List SV)} {t : M Bool} {e : M SV} (I : List SV → Prop) (P : D → Prop) : ∀ {ds acc : List D} {ρ : List SV}, (∀ d ∈ ds, ∀ ρ, I ρ → ∃ ρ1 ρ2 ρ3 ρ4 sv y, g (.fz d) ρ = some ρ1 ∧ t ρ1 = some (.ok true ρ2) ∧ e ρ2 = some (.ok sv ρ3) ∧ esc sv ρ3 = some (.ok y ρ4) ∧ P y ∧ I (wipeD ρ4 ns)) →
    acc.length + ds.length ≤ sizeLine → I ρ → ∃ ys ρ', lcLoop ns g t e ds ρ acc = some (acc ++ ys, ρ') ∧ ys.length = ds.length ∧ (∀ y ∈ ys, P y) ∧ I ρ'
  | [], acc, ρ, h, hl, h0 => ⟨[], ρ, by simp [lcLoop], rfl, fun y hy => (by cases hy), h0⟩
  | d :: ds, acc, ρ, h, hl, h0 => by
    obtain ⟨ρ1, ρ2, ρ3, ρ4, sv, y, h1, h2, h3, h4, h5, h6⟩ := h d List.mem_cons_self ρ h0
    have hl' : acc.length < sizeLine := by simp at hl; omega
    obtain ⟨ys, ρ', k1, k2, k3, k4⟩ := lcLoop_inv (ns := ns) (g := g) (t := t) (e := e) I P (ds := ds) (acc := acc ++ [y]) (ρ := wipeD ρ4 ns) (fun d hd => h d (List.mem_cons_of_mem _ hd)) (by simp at hl ⊢; omega) h6
    refine ⟨y :: ys, ρ', ?_, by simp [k2], fun z hz => ?_, k4⟩
    · simp only [lcLoop, h1, h2, h3, h4, if_pos hl']
      rw [k1]
      simp
    · rcases List.mem_cons.mp hz with rfl | hz
      · exact h5
      · exact k3 z hz
theorem ints_of : ∀ {ds : List D}, (∀ d ∈ ds, ∃ i : Int, d = .int i) → ∃ ns : List Int, ds = ns.map .int
  | [], _ => ⟨[], rfl⟩
  | d :: ds, h => by
    obtain ⟨i, rfl⟩ := h d List.mem_cons_self
    obtain ⟨ns, rfl⟩ := ints_of fun d hd => h d (List.mem_cons_of_mem _ hd)
    exact ⟨i :: ns, rfl⟩
theorem atI_last {α : Type} {xs : List α} (h : 0 < xs.length) : atI xs (-1) = some (xs[xs.length - 1]'(by omega)) := by
  unfold atI ixN
  rw [if_neg (by omega), if_pos (by omega)]
  have : ((-1 : Int) + (xs.length : Int)).toNat = xs.length - 1 := by omega
  simp only [this]
  simp
end DL

set_option Elab.async false
set_option linter.all false
set_option maxRecDepth 100000
/-! The data layer: a comprehension over a slot that stays owned. -/
namespace DL
open PySem PySem.Spec PyProof.Rows L2
open Classical in
noncomputable def lcLoopV (ns : List Nat) (j : Nat) (d0 : List D) (g : SV → List SV → Option (List SV)) (t : M Bool) (e : M SV) : List D → List SV → List D → Option (List D × List SV)
  | [], ρ, acc => if ρ[j]? = some (.own (.lst d0)) then some (acc, ρ) else none
  | d :: ds, ρ, acc => if ρ[j]? = some (.own (.lst d0)) then (match g (.fz d) ρ with
    | some ρ1 => match t ρ1 with
      | some (.ok true ρ2) => match e ρ2 with
        | some (.ok sv ρ3) => match esc sv ρ3 with
          | some (.ok y ρ4) => if acc.length < sizeLine then lcLoopV ns j d0 g t e ds (wipeD ρ4 ns) (acc ++ [y]) else none
          | _ => none
        | _ => none
      | some (.ok false ρ2) => lcLoopV ns j d0 g t e ds (wipeD ρ2 ns) acc
      | _ => none
    | none => none) else none
noncomputable def mLcV (ns : List Nat) (cv : Nat → Bool) (j : Nat) (g : SV → List SV → Option (List SV)) (t : M Bool) (e : M SV) : M SV := fun ρ => match ρ[j]? with
  | some (.own (.lst ds)) => if cv j = false then (match lcLoopV ns j ds g t e ds (wipeD ρ ns) [] with
    | some (acc, ρ2) => some (.ok (.own (.lst acc)) ρ2)
    | none => none) else none
  | _ => mLc ns (mItems (mVar cv j)) g t e ρ
section
variable {c : Fc} {W : WX} {X : Cx} {pos : Pos} {ρ : List SV} {ts : Ts} {σ : L2.St} {H : Hp} {Q : VK}
theorem wipe_twice {σ : L2.St} {ns : List Nat} : wipe (wipe σ ns) ns = wipe σ ns := by
  apply List.ext_getElem?
  intro j
  by_cases hj : j ∈ ns
  · have one : ∀ {τ : L2.St} {o : Option V}, (wipe τ ns)[j]? = some o → o = none := fun {τ o} e => by
      cases o with
      | none => rfl
      | some u => exact absurd hj (wipe_some e).2
    by_cases hl : j < σ.length
    · have l1 : j < (wipe σ ns).length := by rw [wipe_length]; exact hl
      have l2 : j < (wipe (wipe σ ns) ns).length := by rw [wipe_length]; exact l1
      rw [List.getElem?_eq_getElem l1, List.getElem?_eq_getElem l2, one (List.getElem?_eq_getElem l1), one (List.getElem?_eq_getElem l2)]
    · rw [List.getElem?_eq_none (by rw [wipe_length, wipe_length]; omega), List.getElem?_eq_none (by rw [wipe_length]; omega)]
  · rw [wipe_get hj]
theorem read_lcV {own : List (Str × Nat)} {j : Nat} {t : TG} {g : SV → List SV → Option (List SV)} {mt : M Bool} {me : M SV}
    (hv : ∀ i ∈ own.map (·.2), c.cv i = true ∧ c.pin i = none) (cg : CG c (own.map (·.2)) t g) {ds : List D} (r : R c σ ρ ts H) (ej : ρ[j]? = some (.own (.lst ds)))
    (q : PostE c W σ ts Q (match lcLoopV (own.map (·.2)) j ds g mt me ds (wipeD ρ (own.map (·.2))) [] with
      | some (acc, ρ2) => some (.ok (.own (.lst acc)) ρ2)
      | none => none)) : ∃ a, σ[j]? = some (some (.ref a)) ∧ (∃ xs, H a = some (.lst xs)) ∧ ∀ D, H D = none → ∃ Wr : Nat → Nat → Hp → Prop, (∃ m, Wr 0 m (upd H D (.lst []))) ∧ ∀ i m H, Wr i m H →
  ((Itl c.K a).stop i H ∧ Q (.ref D) H) ∨ ((Itl c.K a).go i H ∧ ∃ Nx : Hp → Prop, (∀ H', Nx H' → ∃ m', m' < m ∧ Wr (i + 1) m' H') ∧ ∀ x H', (Itl c.K a).yld i H x H' → t x (wipe σ (own.map (·.2))) H' fun σ2 H2 => wipe σ2 (own.map (·.2)) = wipe σ (own.map (·.2)) ∧ tDT c W0 mt σ2 H2 fun b H3 =>
    if b = true then tDE c W0 me σ2 H3 fun y H4 => ∃ acc, H4 D = some (.lst acc) ∧ acc.length < sizeLine ∧ Nx (upd H4 D (.lst (acc ++ [y]))) else Nx H3) := by
  obtain ⟨a, ds', vs0, ea, e0, eH, _⟩ := r.slot_own ej
  cases e0
  cases el : lcLoopV (own.map (·.2)) j ds g mt me ds (wipeD ρ (own.map (·.2))) [] with
  | none => rw [el] at q; exact q.elim
  | some res =>
  obtain ⟨accF, ρF⟩ := res
  rw [el] at q
  simp only at q
  refine ⟨a, ea, ⟨vs0, eH⟩, fun D hD => ?_⟩
  have r2 : R c σ ρ ((.own (.lst []), .ref D) :: ts) (upd H D (.lst [])) := r.push_new hD upd_same (ext_new hD) RepL.nil
  refine ⟨fun i m H => m = ds.length - i ∧ i ≤ ds.length ∧ ∃ ρ acc, R c (wipe σ (own.map (·.2))) ρ ((.own (.lst acc), .ref D) :: ts) H ∧ Wiped (own.map (·.2)) ρ ∧ lcLoopV (own.map (·.2)) j ds g mt me (ds.drop i) ρ acc = some (accF, ρF),
    ⟨ds.length, rfl, Nat.zero_le _, _, [], r_wipe r2 hv, wipeD_wiped, el⟩, ?_⟩
  rintro i m H2 ⟨rfl, hi, ρ2, acc, r3, w3, e3⟩
  have chk : ρ2[j]? = some (.own (.lst ds)) := by
    cases ed : ds.drop i with
    | nil => rw [ed] at e3; simp only [lcLoopV] at e3; split at e3 <;> first | assumption | cases e3
    | cons _ _ => rw [ed] at e3; simp only [lcLoopV] at e3; split at e3 <;> first | assumption | cases e3
  obtain ⟨a', ds', us, ea', e0, eH2, rl⟩ := r3.slot_own chk
  cases e0
  have eaa : a' = a := by
    have z := (wipe_some ea').1
    rw [ea] at z
    cases z; rfl
  subst eaa
  by_cases hlt : i < ds.length
  · have ed : ds.drop i = ds[i] :: ds.drop (i + 1) := List.drop_eq_getElem_cons hlt
    rw [ed] at e3
    simp only [lcLoopV, if_pos chk] at e3
    obtain ⟨x, hx, rx⟩ := rl.get (show ds[i]? = some ds[i] by simp [hlt])
    refine .inr ⟨⟨us, x, SqL.of eH2, hx⟩, fun H => i + 1 ≤ ds.length ∧ ∃ ρ acc, R c (wipe σ (own.map (·.2))) ρ ((.own (.lst acc), .ref D) :: ts) H ∧ Wiped (own.map (·.2)) ρ ∧ lcLoopV (own.map (·.2)) j ds g mt me (ds.drop (i + 1)) ρ acc = some (accF, ρF), fun H' z => ⟨ds.length - (i + 1), by omega, rfl, z⟩, fun x' H3 y => ?_⟩
    obtain ⟨eH3, hy⟩ := y
    have e4 := hy us (SqL.of eH2)
    rw [hx] at e4
    cases e4
    subst eH3
    have r4 := r3.push_fz rx
    cases eg : g (.fz ds[i]) ρ2 with
    | none => rw [eg] at e3; cases e3
    | some ρ4 =>
    rw [eg] at e3
    simp only at e3
    refine cg.go _ _ _ _ _ _ _ _ r4 eg fun σ5 hs5 r5 => ?_
    have hw : wipe (wipe σ (own.map (·.2))) (own.map (·.2)) = wipe σ (own.map (·.2)) := wipe_twice
    rw [hw] at hs5
    refine ⟨hs5, ρ4, _, r5, ?_⟩
    cases et : mt ρ4 with
    | none => rw [et] at e3; cases e3
    | some yt =>
    rw [et] at e3
    cases yt with
    | er _ _ => cases e3
    | ok bb ρ5 =>
    cases bb with
    | false =>
      simp only at e3
      intro H6 r6
      exact ⟨hlt, _, acc, r_rewipe hv hs5 r6, wipeD_wiped, e3⟩
    | true =>
      simp only at e3
      intro H6 r6
      refine ⟨ρ5, _, r6, ?_⟩
      cases ee : me ρ5 with
      | none => rw [ee] at e3; cases e3
      | some ye =>
      rw [ee] at e3
      cases ye with
      | er _ _ => cases e3
      | ok sv ρ6 =>
      simp only at e3
      intro yv H7 r7
      cases es : esc sv ρ6 with
      | none => rw [es] at e3; cases e3
      | some z =>
      rw [es] at e3
      cases z with
      | er _ _ => cases e3
      | ok yd ρ7 =>
      simp only at e3
      split at e3
      · rename_i hz
        obtain ⟨xs, h1, h2, r8⟩ := r_grow (r_esc r7 es)
        exact ⟨xs, h1, by rw [h2]; exact hz, hlt, _, _, r_rewipe hv hs5 r8, wipeD_wiped, e3⟩
      · cases e3
  · have ei : i = ds.length := by omega
    subst ei
    rw [List.drop_length] at e3
    simp only [lcLoopV, if_pos chk, Option.some.injEq, Prod.mk.injEq] at e3
    obtain ⟨rfl, rfl⟩ := e3
    refine .inl ⟨⟨us, SqL.of eH2, by rw [rl.length]; exact Nat.le_refl _⟩, q _ _ ?_⟩
    exact r_unwipe hv w3 r3
theorem pi_or {tg e : Expr} {t t' : TI} (h : PI X tg e t) (h' : PI X tg e t') : PI X tg e (fun σ H R => t σ H R ∨ t' σ H R) := ⟨fun pins s σ H R I q => q.elim (h.run pins s σ H R I) (h'.run pins s σ H R I)⟩
abbrev iV (c : Fc) (W : WX) (j : Nat) : TI := fun σ H R => iSeq c.K (tDE c W (mVar c.cv j)) σ H R ∨ tDI c W (mItems (mVar c.cv j)) σ H R
theorem read_lcVV {own : List (Str × Nat)} {j : Nat} {t : TG} {g : SV → List SV → Option (List SV)} {mt : M Bool} {me : M SV}
    (hv : ∀ i ∈ own.map (·.2), c.cv i = true ∧ c.pin i = none) (cg : CG c (own.map (·.2)) t g) (h : tDE c W (mLcV (own.map (·.2)) c.cv j g mt me) σ H Q) : tLc (iV c W j) t (tDT c W0 mt) (tDE c W0 me) (own.map (·.2)) σ H Q := by
  obtain ⟨ρ, ts, r, q⟩ := h
  have other : PostE c W σ ts Q (mLc (own.map (·.2)) (mItems (mVar c.cv j)) g mt me ρ) → tLc (iV c W j) t (tDT c W0 mt) (tDE c W0 me) (own.map (·.2)) σ H Q := fun q => .inr (read_lc (W := W) hv cg ⟨ρ, ts, r, q⟩)
  unfold mLcV at q
  split at q
  · rename_i ds ej
    split at q
    · rename_i hc
      refine .inl ⟨ρ, ts, r, ?_⟩
      unfold mVar
      rw [ej]
      simp only [if_pos hc]
      intro v H' r'
      obtain ⟨a, ea, hx, k⟩ := read_lcV hv cg r'.pop ej q
      have := r'.loc_at
      rw [ea] at this
      cases this
      exact ⟨a, rfl, .inl ⟨hx.imp fun xs e => SqL.of e, k⟩⟩
    · exact q.elim
  · exact other q
theorem pd_lcV {elt tg iter : Expr} {ifs : List Expr} {scope : Scope} {own : List (Str × Nat)} {j : Nat} {t : TG} {g : SV → List SV → Option (List SV)} {mt : M Bool} {me : M SV} (hc : X.calm = true) (hN : X.N.Nodup) (hl : PE X iter (tDE c W (mVar c.cv j))) (ok : BlkOk X.N X.env.scope scope own)
    (hv : ∀ i ∈ own.map (·.2), c.cv i = true ∧ c.pin i = none)
    (hg : ∀ (s : Shared) (H : Hp) (C : Addr) (cl : List (Str × Addr)) (fp : List Addr), PG (X.blk s H scope (compEnvC scope cl C X.env) fp) tg t) (cg : CG c (own.map (·.2)) t g)
    (ht : ∀ (s : Shared) (H : Hp) (C : Addr) (cl : List (Str × Addr)) (fp : List Addr), PTs (X.blk s H scope (compEnvC scope cl C X.env) fp) ifs (tDT c W0 mt))
    (he : ∀ (s : Shared) (H : Hp) (C : Addr) (cl : List (Str × Addr)) (fp : List Addr), PE (X.blk s H scope (compEnvC scope cl C X.env) fp) elt (tDE c W0 me)) (hK : c.K = X.K := by rfl) (hs : ∀ x, foldedSetIterable iter X.env x = pure x := by intro _; rfl) :
    PE X (.ListComp elt [⟨tg, iter, ifs, 0⟩] scope pos) (tDE c W (mLcV (own.map (·.2)) c.cv j g mt me)) :=
  pe_imp (pe_lc hc hN (pi_or (hK ▸ pi_seq hl) (pd_seq hl hK)) ok hg ht he hs) fun σ H Q h => read_lcVV hv cg h
theorem pd_setLcV {i : Nat} {y : Str} {py spos : Pos} {elt tg iter : Expr} {ifs : List Expr} {scope : Scope} {own : List (Str × Nat)} {j : Nat} {t : TG} {g : SV → List SV → Option (List SV)} {mt : M Bool} {me : M SV} (hc : X.calm = true) (hN : X.N.Nodup)
    (hy : X.N[i]? = some y) (hyl : X.env.scope.names.lookup y = some .local) (hsw : swapsWith (.ListComp elt [⟨tg, iter, ifs, 0⟩] scope pos) (some (.Name y py)) spos.line X.env = pure true)
    (hl : PE X iter (tDE c W (mVar c.cv j))) (ok : BlkOk X.N X.env.scope scope own)
    (hv : ∀ i ∈ own.map (·.2), c.cv i = true ∧ c.pin i = none)
    (hg : ∀ (s : Shared) (H : Hp) (C : Addr) (cl : List (Str × Addr)) (fp : List Addr), PG (X.blk s H scope (compEnvC scope cl C X.env) fp) tg t) (cg : CG c (own.map (·.2)) t g)
    (ht : ∀ (s : Shared) (H : Hp) (C : Addr) (cl : List (Str × Addr)) (fp : List Addr), PTs (X.blk s H scope (compEnvC scope cl C X.env) fp) ifs (tDT c W0 mt))
    (he : ∀ (s : Shared) (H : Hp) (C : Addr) (cl : List (Str × Addr)) (fp : List Addr), PE (X.blk s H scope (compEnvC scope cl C X.env) fp) elt (tDE c W0 me)) (hp : c.pin i = none := by rfl) (hK : c.K = X.K := by rfl) (hs : ∀ x, foldedSetIterable iter X.env x = pure x := by intro _; rfl) :
    PS X (.Assign [.Name y py] (.ListComp elt [⟨tg, iter, ifs, 0⟩] scope pos) spos) (tDS c W (mSet i (mLcV (own.map (·.2)) c.cv j g mt me))) :=
  pd_setR (ps_setLc hc hN hy hyl hsw (pi_or (hK ▸ pi_seq hl) (pd_seq hl hK)) ok hg ht he hs) (fun σ H Q h => read_lcVV hv cg h) hp
end
/-! the loop in plain terms -/
theorem lcLoopV_filter {ns : List Nat} {j : Nat} {d0 : List D} {g : SV → List SV → Option (List SV)} {t : M Bool} {e : M SV} {p : D → Bool} {F : D → D} {ρ : List SV} (hj : ρ[j]? = some (.own (.lst d0))) : ∀ {ds acc : List D}, (∀ d ∈ ds, ∃ ρ1 ρ2, g (.fz d) ρ = some ρ1 ∧ t ρ1 = some (.ok (p d) ρ2) ∧ (p d = true → ∃ ρ3 ρ4 sv, e ρ2 = some (.ok sv ρ3) ∧ esc sv ρ3 = some (.ok (F d) ρ4) ∧ wipeD ρ4 ns = ρ) ∧ (p d = false → wipeD ρ2 ns = ρ)) →
    acc.length + ds.length ≤ sizeLine → lcLoopV ns j d0 g t e ds ρ acc = some (acc ++ (ds.filter p).map F, ρ)
  | [], acc, h, hl => by simp [lcLoopV, hj]
  | d :: ds, acc, h, hl => by
    obtain ⟨ρ1, ρ2, h1, h2, h3, h4⟩ := h d List.mem_cons_self
    have hl' : acc.length < sizeLine := by simp at hl; omega
    have ih := fun acc' => lcLoopV_filter (ns := ns) (g := g) (t := t) (e := e) (p := p) (F := F) (ρ := ρ) hj (ds := ds) (acc := acc') (fun d hd => h d (List.mem_cons_of_mem _ hd))
    cases hp : p d with
    | false =>
      rw [hp] at h2
      simp only [lcLoopV, if_pos hj, h1, h2]
      rw [h4 hp, ih acc (by simp at hl; omega), List.filter_cons_of_neg (by rw [hp]; decide)]
    | true =>
      rw [hp] at h2
      obtain ⟨ρ3, ρ4, sv, h5, h6, h7⟩ := h3 hp
      simp only [lcLoopV, if_pos hj, h1, h2, h5, h6, if_pos hl', h7]
      rw [ih _ (by simp at hl ⊢; omega), List.filter_cons_of_pos hp]
      simp
theorem lcLoopV_map {ns : List Nat} {j : Nat} {d0 : List D} {g : SV → List SV → Option (List SV)} {t : M Bool} {e : M SV} {F : D → D} {ρ : List SV} (hj : ρ[j]? = some (.own (.lst d0))) {ds acc : List D} (h : ∀ d ∈ ds, ∃ ρ1 ρ2 ρ3 ρ4 sv, g (.fz d) ρ = some ρ1 ∧ t ρ1 = some (.ok true ρ2) ∧ e ρ2 = some (.ok sv ρ3) ∧ esc sv ρ3 = some (.ok (F d) ρ4) ∧ wipeD ρ4 ns = ρ)
    (hl : acc.length + ds.length ≤ sizeLine) : lcLoopV ns j d0 g t e ds ρ acc = some (acc ++ ds.map F, ρ) := by
  have := lcLoopV_filter (p := fun _ => true) (F := F) hj (ds := ds) (acc := acc) (fun d hd => by
    obtain ⟨ρ1, ρ2, ρ3, ρ4, sv, h1, h2, h3, h4, h5⟩ := h d hd
    exact ⟨ρ1, ρ2, h1, h2, fun _ => ⟨ρ3, ρ4, sv, h3, h4, h5⟩, fun z => (nomatch z)⟩) hl
  rw [this, List.filter_eq_self.mpr fun _ _ => rfl]
end DL

set_option Elab.async false
set_option linter.all false
set_option maxRecDepth 100000
namespace Lw
open PySem PySem.Spec PyProof.Rows L2 DL
noncomputable section
def N_least_name : List Str := ["piles", "least", "name", "pile"]
def mb_least_name_0 : MS := (mIf (mAnd (mTest (mBin (lift2 fGe) (mVar (cvL []) 3) (mC (.int 0)))) (mOr (mTest (mBin (lift2 fLt) (mVar (cvL []) 1) (mC (.int 0)))) (mTest (mBin (lift2 fLt) (mVar (cvL []) 3) (mBin (lift2 fIx) (mVar (cvL []) 0) (mVar (cvL []) 1)))))) (mSet 1 (mVar (cvL []) 2)) mNext)
def m_least_name : MS := (mSeq (mSet 1 (mUn fNeg (mC (.int 1))))
    (mSeq (mFor (mEnum (mVar (cvL []) 0)) (gTupD 2 (gsCons (sto 2) (gsCons (sto 3) gsNil))) mb_least_name_0)
    (mRet (mVar (cvL []) 1))))
def st_least_name_0 : MS := (mSet 1 (mUn fNeg (mC (.int 1))))
def st_least_name_1 : MS := (mFor (mEnum (mVar (cvL []) 0)) (gTupD 2 (gsCons (sto 2) (gsCons (sto 3) gsNil))) mb_least_name_0)
def st_least_name_2 : MS := (mRet (mVar (cvL []) 1))
theorem m_least_name_eq : m_least_name = (mSeq (st_least_name_0) (mSeq (st_least_name_1) (st_least_name_2))) := rfl
def g_least_name : Fn := fun as => fin0 [false] (m_least_name (as ++ List.replicate 3 .un))

def N_keys_in : List Str := ["piles", "name", "pile"]
def me_keys_in_0 : M SV := (mTup (mCons (mVar (cvL [1, 2]) 2) (mCons (mVar (cvL [1, 2]) 1) mNil)))
def mt_keys_in_1 : M Bool := (mTest (mBin (lift2 fGe) (mVar (cvL [1, 2]) 2) (mC (.int 0))))
def m_keys_in : MS := (mRet (mCallB fSortedIP (mCons (mLc [1, 2] (mEnum (mVar (cvL [1, 2]) 0)) (gTupD 2 (gsCons (sto 1) (gsCons (sto 2) gsNil))) mt_keys_in_1 me_keys_in_0) mNil)))
def g_keys_in : Fn := fun as => fin0 [false] (m_keys_in (as ++ List.replicate 2 .un))

def N_batch_sizes : List Str := ["keys", "sizes", "total", "top", "many", "pile", "name"]
def mb_batch_sizes_0 : MS := (mSeq (mTo (gTupD 2 (gsCons (sto 5) (gsCons (sto 6) gsNil))) (mBin (lift2 fIx) (mVar (cvL []) 0) (mBin (lift2 fSub) (mVar (cvL []) 4) (mC (.int 1)))))
    (mSeq (mAug fAddI 2 (mVar (cvL []) 5))
    (mSeq (mSet 3 (mCallB fMax (mCons (mVar (cvL []) 3) (mCons (mVar (cvL []) 6) mNil))))
    (mIf (mTest (mBin (lift2 fLt) (mTup (mCons (mVar (cvL []) 2) (mCons (mVar (cvL []) 3) mNil))) (mBin (lift2 fIx) (mVar (cvL []) 0) (mVar (cvL []) 4)))) (mExpr (mMeth 1 (mCons (mVar (cvL []) 4) mNil) (kAppend 1))) mNext))))
def m_batch_sizes : MS := (mSeq (mSet 1 (mLst mNil))
    (mSeq (mSet 2 (mC (.int 0)))
    (mSeq (mSet 3 (mUn fNeg (mC (.int 1))))
    (mSeq (mFor (mRange2 (mC (.int 1)) (mCallB fLen (mCons (mVar (cvL []) 0) mNil))) (sto 4) mb_batch_sizes_0)
    (mRet (mVar (cvL []) 1))))))
def sb_batch_sizes_0_0 : MS := (mTo (gTupD 2 (gsCons (sto 5) (gsCons (sto 6) gsNil))) (mBin (lift2 fIx) (mVar (cvL []) 0) (mBin (lift2 fSub) (mVar (cvL []) 4) (mC (.int 1)))))
def sb_batch_sizes_0_1 : MS := (mAug fAddI 2 (mVar (cvL []) 5))
def sb_batch_sizes_0_2 : MS := (mSet 3 (mCallB fMax (mCons (mVar (cvL []) 3) (mCons (mVar (cvL []) 6) mNil))))
def sb_batch_sizes_0_3 : MS := (mIf (mTest (mBin (lift2 fLt) (mTup (mCons (mVar (cvL []) 2) (mCons (mVar (cvL []) 3) mNil))) (mBin (lift2 fIx) (mVar (cvL []) 0) (mVar (cvL []) 4)))) (mExpr (mMeth 1 (mCons (mVar (cvL []) 4) mNil) (kAppend 1))) mNext)
theorem mb_batch_sizes_0_eq : mb_batch_sizes_0 = (mSeq (sb_batch_sizes_0_0) (mSeq (sb_batch_sizes_0_1) (mSeq (sb_batch_sizes_0_2) (sb_batch_sizes_0_3)))) := rfl
def st_batch_sizes_0 : MS := (mSet 1 (mLst mNil))
def st_batch_sizes_1 : MS := (mSet 2 (mC (.int 0)))
def st_batch_sizes_2 : MS := (mSet 3 (mUn fNeg (mC (.int 1))))
def st_batch_sizes_3 : MS := (mFor (mRange2 (mC (.int 1)) (mCallB fLen (mCons (mVar (cvL []) 0) mNil))) (sto 4) mb_batch_sizes_0)
def st_batch_sizes_4 : MS := (mRet (mVar (cvL []) 1))
theorem m_batch_sizes_eq : m_batch_sizes = (mSeq (st_batch_sizes_0) (mSeq (st_batch_sizes_1) (mSeq (st_batch_sizes_2) (mSeq (st_batch_sizes_3) (st_batch_sizes_4))))) := rfl
def g_batch_sizes : Fn := fun as => fin0 [false] (m_batch_sizes (as ++ List.replicate 6 .un))

def N_widest_batch : List Str := ["piles", "sizes"]
def m_widest_batch : MS := (mSeq (mSet 1 (mCallP 1 g_batch_sizes (mCons (mCallP 1 g_keys_in (mCons (mVar (cvL []) 0) mNil)) mNil)))
    (mSeq (mIf (mTest (mBin (lift2 fEq) (mCallB fLen (mCons (mVar (cvL []) 1) mNil)) (mC (.int 0)))) (mRet (mC (.int 0))) mNext)
    (mRet (mBin (lift2 fIx) (mVar (cvL []) 1) (mUn fNeg (mC (.int 1)))))))
def st_widest_batch_0 : MS := (mSet 1 (mCallP 1 g_batch_sizes (mCons (mCallP 1 g_keys_in (mCons (mVar (cvL []) 0) mNil)) mNil)))
def st_widest_batch_1 : MS := (mIf (mTest (mBin (lift2 fEq) (mCallB fLen (mCons (mVar (cvL []) 1) mNil)) (mC (.int 0)))) (mRet (mC (.int 0))) mNext)
def st_widest_batch_2 : MS := (mRet (mBin (lift2 fIx) (mVar (cvL []) 1) (mUn fNeg (mC (.int 1)))))
theorem m_widest_batch_eq : m_widest_batch = (mSeq (st_widest_batch_0) (mSeq (st_widest_batch_1) (st_widest_batch_2))) := rfl
def g_widest_batch : Fn := fun as => fin0 [false] (m_widest_batch (as ++ List.replicate 1 .un))

def N__law_mix : List Str := ["one", "two", "summed", "squared", "turned"]
def m__law_mix : MS := (mSeq (mSet 2 (mBin (lift2 fMod) (mBin (lift2 fAdd) (mBin (lift2 fAdd) (mBin (lift2 fMul) (mCallB fInt (mCons (mVar (cvL []) 0) mNil)) (mC (.int 48271))) (mBin (lift2 fMul) (mCallB fInt (mCons (mVar (cvL []) 1) mNil)) (mC (.int 69621)))) (mC (.int 9973))) (mC (.int 2147483647))))
    (mSeq (mSet 3 (mBin (lift2 fMod) (mBin (lift2 fAdd) (mBin (lift2 fAdd) (mBin (lift2 fMul) (mVar (cvL []) 2) (mVar (cvL []) 2)) (mBin (lift2 fMul) (mCallB fInt (mCons (mVar (cvL []) 1) mNil)) (mC (.int 40692)))) (mC (.int 7))) (mC (.int 2147483629))))
    (mSeq (mSet 4 (mBin (lift2 fAdd) (mBin (lift2 fDiv) (mVar (cvL []) 3) (mC (.int 46337))) (mBin (lift2 fMul) (mBin (lift2 fMod) (mVar (cvL []) 3) (mC (.int 46337))) (mC (.int 46349)))))
    (mRet (mBin (lift2 fMod) (mBin (lift2 fMul) (mVar (cvL []) 4) (mC (.int 16807))) (mC (.int 2147483587)))))))
def st__law_mix_0 : MS := (mSet 2 (mBin (lift2 fMod) (mBin (lift2 fAdd) (mBin (lift2 fAdd) (mBin (lift2 fMul) (mCallB fInt (mCons (mVar (cvL []) 0) mNil)) (mC (.int 48271))) (mBin (lift2 fMul) (mCallB fInt (mCons (mVar (cvL []) 1) mNil)) (mC (.int 69621)))) (mC (.int 9973))) (mC (.int 2147483647))))
def st__law_mix_1 : MS := (mSet 3 (mBin (lift2 fMod) (mBin (lift2 fAdd) (mBin (lift2 fAdd) (mBin (lift2 fMul) (mVar (cvL []) 2) (mVar (cvL []) 2)) (mBin (lift2 fMul) (mCallB fInt (mCons (mVar (cvL []) 1) mNil)) (mC (.int 40692)))) (mC (.int 7))) (mC (.int 2147483629))))
def st__law_mix_2 : MS := (mSet 4 (mBin (lift2 fAdd) (mBin (lift2 fDiv) (mVar (cvL []) 3) (mC (.int 46337))) (mBin (lift2 fMul) (mBin (lift2 fMod) (mVar (cvL []) 3) (mC (.int 46337))) (mC (.int 46349)))))
def st__law_mix_3 : MS := (mRet (mBin (lift2 fMod) (mBin (lift2 fMul) (mVar (cvL []) 4) (mC (.int 16807))) (mC (.int 2147483587))))
theorem m__law_mix_eq : m__law_mix = (mSeq (st__law_mix_0) (mSeq (st__law_mix_1) (mSeq (st__law_mix_2) (st__law_mix_3)))) := rfl
def g__law_mix : Fn := fun as => fin0 [false, false] (m__law_mix (as ++ List.replicate 3 .un))

def N__law_store : List Str := ["script", "wide", "cells", "digest", "cell", "small"]
def mb__law_store_0 : MS := (mSeq (mSet 5 (mBin (lift2 fMod) (mCallB fAbs (mCons (mCallB fInt (mCons (mVar (cvL []) 4) mNil)) mNil)) (mVar (cvL []) 1)))
    (mSeq (mIf (mTest (mBin (lift2 fLt) (mVar (cvL []) 4) (mC (.int 0)))) (mSet 3 (mBin (lift2 fAdd) (mVar (cvL []) 3) (mC (.int 5)))) mNext)
    (mSeq (mSet 3 (mCallP 2 g__law_mix (mCons (mVar (cvL []) 3) (mCons (mVar (cvL []) 5) mNil))))
    (mExpr (mMeth 2 (mCons (mVar (cvL []) 5) mNil) (kAppend 2))))))
def m__law_store : MS := (mSeq (mSet 1 (mBin (lift2 fPow) (mC (.int 10)) (mC (.int 60))))
    (mSeq (mSet 1 (mBin (lift2 fMul) (mBin (lift2 fMul) (mBin (lift2 fMul) (mBin (lift2 fMul) (mVar (cvL []) 1) (mVar (cvL []) 1)) (mVar (cvL []) 1)) (mVar (cvL []) 1)) (mVar (cvL []) 1)))
    (mSeq (mSet 2 (mLst mNil))
    (mSeq (mSet 3 (mC (.int 17)))
    (mSeq (mFor (mItems (mSl (mVar (cvL []) 0) mNoPart (mPart (mC (.int 63))))) (sto 4) mb__law_store_0)
    (mRet (mLst (mCons (mVar (cvL []) 2) (mCons (mC (.int 0)) (mCons (mC (.int 0)) (mCons (mC (.int 0)) (mCons (mC (.int 0)) (mCons (mC (.int 0)) (mCons (mVar (cvL []) 3) mNil))))))))))))))
def sb__law_store_0_0 : MS := (mSet 5 (mBin (lift2 fMod) (mCallB fAbs (mCons (mCallB fInt (mCons (mVar (cvL []) 4) mNil)) mNil)) (mVar (cvL []) 1)))
def sb__law_store_0_1 : MS := (mIf (mTest (mBin (lift2 fLt) (mVar (cvL []) 4) (mC (.int 0)))) (mSet 3 (mBin (lift2 fAdd) (mVar (cvL []) 3) (mC (.int 5)))) mNext)
def sb__law_store_0_2 : MS := (mSet 3 (mCallP 2 g__law_mix (mCons (mVar (cvL []) 3) (mCons (mVar (cvL []) 5) mNil))))
def sb__law_store_0_3 : MS := (mExpr (mMeth 2 (mCons (mVar (cvL []) 5) mNil) (kAppend 2)))
theorem mb__law_store_0_eq : mb__law_store_0 = (mSeq (sb__law_store_0_0) (mSeq (sb__law_store_0_1) (mSeq (sb__law_store_0_2) (sb__law_store_0_3)))) := rfl
def st__law_store_0 : MS := (mSet 1 (mBin (lift2 fPow) (mC (.int 10)) (mC (.int 60))))
def st__law_store_1 : MS := (mSet 1 (mBin (lift2 fMul) (mBin (lift2 fMul) (mBin (lift2 fMul) (mBin (lift2 fMul) (mVar (cvL []) 1) (mVar (cvL []) 1)) (mVar (cvL []) 1)) (mVar (cvL []) 1)) (mVar (cvL []) 1)))
def st__law_store_2 : MS := (mSet 2 (mLst mNil))
def st__law_store_3 : MS := (mSet 3 (mC (.int 17)))
def st__law_store_4 : MS := (mFor (mItems (mSl (mVar (cvL []) 0) mNoPart (mPart (mC (.int 63))))) (sto 4) mb__law_store_0)
def st__law_store_5 : MS := (mRet (mLst (mCons (mVar (cvL []) 2) (mCons (mC (.int 0)) (mCons (mC (.int 0)) (mCons (mC (.int 0)) (mCons (mC (.int 0)) (mCons (mC (.int 0)) (mCons (mVar (cvL []) 3) mNil)))))))))
theorem m__law_store_eq : m__law_store = (mSeq (st__law_store_0) (mSeq (st__law_store_1) (mSeq (st__law_store_2) (mSeq (st__law_store_3) (mSeq (st__law_store_4) (st__law_store_5)))))) := rfl
def g__law_store : Fn := fun as => fin0 [false] (m__law_store (as ++ List.replicate 5 .un))

def N__law_next : List Str := ["store", "cells", "cell"]
def m__law_next : MS := (mSeq (mSetAt 0 (mC (.int 0)) (mC (.int 2)))
    (mSeq (mSetAt 0 (mC (.int 1000000)) (mC (.int 3)))
    (mSeq (mSetAt 0 (mBin (lift2 fIx) (mVar (cvL []) 0) (mC (.int 6))) (mC (.int 5)))
    (mIf (mTest (mBin (lift2 fLt) (mBin (lift2 fIx) (mVar (cvL []) 0) (mC (.int 1))) (mCallB fLen (mCons (mBin (lift2 fIx) (mVar (cvL []) 0) (mC (.int 0))) mNil)))) (mSeq (mSet 1 (mBin (lift2 fIx) (mVar (cvL []) 0) (mC (.int 0))))
    (mSeq (mSet 2 (mBin (lift2 fIx) (mVar (cvL []) 1) (mBin (lift2 fIx) (mVar (cvL []) 0) (mC (.int 1)))))
    (mSeq (mSetAt 0 (mCallP 2 g__law_mix (mCons (mBin (lift2 fAdd) (mBin (lift2 fIx) (mVar (cvL []) 0) (mC (.int 6))) (mBin (lift2 fIx) (mVar (cvL []) 0) (mC (.int 1)))) (mCons (mVar (cvL []) 2) mNil))) (mC (.int 5)))
    (mSeq (mSetAt 0 (mC (.int 3)) (mC (.int 3)))
    (mSeq (mIf (mTest (mBin (lift2 fGe) (mVar (cvL []) 2) (mBin (lift2 fPow) (mC (.int 10)) (mC (.int 18))))) (mSeq (mSetAt 0 (mVar (cvL []) 2) (mC (.int 2)))
    (mSetAt 0 (mC (.int 0)) (mC (.int 3)))) mNext)
    (mSetAt 0 (mBin (lift2 fAdd) (mBin (lift2 fIx) (mVar (cvL []) 0) (mC (.int 1))) (mC (.int 1))) (mC (.int 1)))))))) mNext))))
def st__law_next_0 : MS := (mSetAt 0 (mC (.int 0)) (mC (.int 2)))
def st__law_next_1 : MS := (mSetAt 0 (mC (.int 1000000)) (mC (.int 3)))
def st__law_next_2 : MS := (mSetAt 0 (mBin (lift2 fIx) (mVar (cvL []) 0) (mC (.int 6))) (mC (.int 5)))
def st__law_next_3 : MS := (mIf (mTest (mBin (lift2 fLt) (mBin (lift2 fIx) (mVar (cvL []) 0) (mC (.int 1))) (mCallB fLen (mCons (mBin (lift2 fIx) (mVar (cvL []) 0) (mC (.int 0))) mNil)))) (mSeq (mSet 1 (mBin (lift2 fIx) (mVar (cvL []) 0) (mC (.int 0))))
    (mSeq (mSet 2 (mBin (lift2 fIx) (mVar (cvL []) 1) (mBin (lift2 fIx) (mVar (cvL []) 0) (mC (.int 1)))))
    (mSeq (mSetAt 0 (mCallP 2 g__law_mix (mCons (mBin (lift2 fAdd) (mBin (lift2 fIx) (mVar (cvL []) 0) (mC (.int 6))) (mBin (lift2 fIx) (mVar (cvL []) 0) (mC (.int 1)))) (mCons (mVar (cvL []) 2) mNil))) (mC (.int 5)))
    (mSeq (mSetAt 0 (mC (.int 3)) (mC (.int 3)))
    (mSeq (mIf (mTest (mBin (lift2 fGe) (mVar (cvL []) 2) (mBin (lift2 fPow) (mC (.int 10)) (mC (.int 18))))) (mSeq (mSetAt 0 (mVar (cvL []) 2) (mC (.int 2)))
    (mSetAt 0 (mC (.int 0)) (mC (.int 3)))) mNext)
    (mSetAt 0 (mBin (lift2 fAdd) (mBin (lift2 fIx) (mVar (cvL []) 0) (mC (.int 1))) (mC (.int 1))) (mC (.int 1)))))))) mNext)
theorem m__law_next_eq : m__law_next = (mSeq (st__law_next_0) (mSeq (st__law_next_1) (mSeq (st__law_next_2) (st__law_next_3)))) := rfl
def g__law_next : Fn := fun as => fin0 [true] (m__law_next (as ++ List.replicate 2 .un))

def N__law_take : List Str := ["store", "many", "digit", "value", "reach", "k"]
def mb__law_take_0 : MS := (mIf (mTest (mBin (lift2 fLt) (mVar (cvL []) 4) (mBin (lift2 fMul) (mVar (cvL []) 1) (mC (.int 1000))))) (mSeq (mSet 3 (mBin (lift2 fAdd) (mBin (lift2 fMul) (mVar (cvL []) 3) (mC (.int 2147483587))) (mCallP 2 g__law_mix (mCons (mVar (cvL []) 3) (mCons (mBin (lift2 fAdd) (mBin (lift2 fMul) (mBin (lift2 fIx) (mVar (cvL []) 0) (mC (.int 4))) (mC (.int 12))) (mVar (cvL []) 5)) mNil)))))
    (mSet 4 (mBin (lift2 fMul) (mVar (cvL []) 4) (mC (.int 2147483587))))) mNext)
def m__law_take : MS := (mSeq (mIf (mTest (mBin (lift2 fLt) (mVar (cvL []) 1) (mC (.int 2)))) (mRet (mC (.int 0))) mNext)
    (mSeq (mIf (mAnd (mTest (mBin (lift2 fLt) (mBin (lift2 fIx) (mVar (cvL []) 0) (mC (.int 2))) (mC (.int 2)))) (mTest (mBin (lift2 fLt) (mBin (lift2 fIx) (mVar (cvL []) 0) (mC (.int 3))) (mC (.int 1))))) (mExpr (mCall [true] g__law_next (mCons (mVar (cvL []) 0) mNil))) mNext)
    (mSeq (mIf (mTest (mBin (lift2 fGt) (mBin (lift2 fIx) (mVar (cvL []) 0) (mC (.int 2))) (mC (.int 1)))) (mSeq (mSet 2 (mBin (lift2 fMod) (mCallB fInt (mCons (mBin (lift2 fIx) (mVar (cvL []) 0) (mC (.int 2))) mNil)) (mVar (cvL []) 1)))
    (mSeq (mSetAt 0 (mBin (lift2 fDiv) (mBin (lift2 fIx) (mVar (cvL []) 0) (mC (.int 2))) (mVar (cvL []) 1)) (mC (.int 2)))
    (mRet (mVar (cvL []) 2)))) mNext)
    (mSeq (mSetAt 0 (mBin (lift2 fSub) (mBin (lift2 fIx) (mVar (cvL []) 0) (mC (.int 3))) (mC (.int 1))) (mC (.int 3)))
    (mSeq (mSetAt 0 (mBin (lift2 fAdd) (mBin (lift2 fIx) (mVar (cvL []) 0) (mC (.int 4))) (mC (.int 1))) (mC (.int 4)))
    (mSeq (mSet 3 (mCallP 2 g__law_mix (mCons (mCallP 2 g__law_mix (mCons (mBin (lift2 fIx) (mVar (cvL []) 0) (mC (.int 5))) (mCons (mBin (lift2 fIx) (mVar (cvL []) 0) (mC (.int 4))) mNil))) (mCons (mBin (lift2 fAdd) (mBin (lift2 fIx) (mVar (cvL []) 0) (mC (.int 4))) (mC (.int 3))) mNil))))
    (mSeq (mSet 4 (mC (.int 2147483587)))
    (mSeq (mFor (mRange1 (mC (.int 12))) (sto 5) mb__law_take_0)
    (mRet (mBin (lift2 fMod) (mCallB fInt (mCons (mVar (cvL []) 3) mNil)) (mVar (cvL []) 1)))))))))))
def st__law_take_0 : MS := (mIf (mTest (mBin (lift2 fLt) (mVar (cvL []) 1) (mC (.int 2)))) (mRet (mC (.int 0))) mNext)
def st__law_take_1 : MS := (mIf (mAnd (mTest (mBin (lift2 fLt) (mBin (lift2 fIx) (mVar (cvL []) 0) (mC (.int 2))) (mC (.int 2)))) (mTest (mBin (lift2 fLt) (mBin (lift2 fIx) (mVar (cvL []) 0) (mC (.int 3))) (mC (.int 1))))) (mExpr (mCall [true] g__law_next (mCons (mVar (cvL []) 0) mNil))) mNext)
def st__law_take_2 : MS := (mIf (mTest (mBin (lift2 fGt) (mBin (lift2 fIx) (mVar (cvL []) 0) (mC (.int 2))) (mC (.int 1)))) (mSeq (mSet 2 (mBin (lift2 fMod) (mCallB fInt (mCons (mBin (lift2 fIx) (mVar (cvL []) 0) (mC (.int 2))) mNil)) (mVar (cvL []) 1)))
    (mSeq (mSetAt 0 (mBin (lift2 fDiv) (mBin (lift2 fIx) (mVar (cvL []) 0) (mC (.int 2))) (mVar (cvL []) 1)) (mC (.int 2)))
    (mRet (mVar (cvL []) 2)))) mNext)
def st__law_take_3 : MS := (mSetAt 0 (mBin (lift2 fSub) (mBin (lift2 fIx) (mVar (cvL []) 0) (mC (.int 3))) (mC (.int 1))) (mC (.int 3)))
def st__law_take_4 : MS := (mSetAt 0 (mBin (lift2 fAdd) (mBin (lift2 fIx) (mVar (cvL []) 0) (mC (.int 4))) (mC (.int 1))) (mC (.int 4)))
def st__law_take_5 : MS := (mSet 3 (mCallP 2 g__law_mix (mCons (mCallP 2 g__law_mix (mCons (mBin (lift2 fIx) (mVar (cvL []) 0) (mC (.int 5))) (mCons (mBin (lift2 fIx) (mVar (cvL []) 0) (mC (.int 4))) mNil))) (mCons (mBin (lift2 fAdd) (mBin (lift2 fIx) (mVar (cvL []) 0) (mC (.int 4))) (mC (.int 3))) mNil))))
def st__law_take_6 : MS := (mSet 4 (mC (.int 2147483587)))
def st__law_take_7 : MS := (mFor (mRange1 (mC (.int 12))) (sto 5) mb__law_take_0)
def st__law_take_8 : MS := (mRet (mBin (lift2 fMod) (mCallB fInt (mCons (mVar (cvL []) 3) mNil)) (mVar (cvL []) 1)))
theorem m__law_take_eq : m__law_take = (mSeq (st__law_take_0) (mSeq (st__law_take_1) (mSeq (st__law_take_2) (mSeq (st__law_take_3) (mSeq (st__law_take_4) (mSeq (st__law_take_5) (mSeq (st__law_take_6) (mSeq (st__law_take_7) (st__law_take_8))))))))) := rfl
def g__law_take : Fn := fun as => fin0 [true, false] (m__law_take (as ++ List.replicate 4 .un))

def N__law_rare : List Str := ["store", "many"]
def m__law_rare : MS := (mRet (mBin (lift2 fEq) (mCall [true, false] g__law_take (mCons (mVar (cvL []) 0) (mCons (mVar (cvL []) 1) mNil))) (mC (.int 0))))
def g__law_rare : Fn := fun as => fin0 [true, false] (m__law_rare (as ++ List.replicate 0 .un))

def N__law_pick : List Str := ["store", "things"]
def m__law_pick : MS := (mRet (mBin (lift2 fIx) (mVar (cvL []) 1) (mCall [true, false] g__law_take (mCons (mVar (cvL []) 0) (mCons (mCallB fLen (mCons (mVar (cvL []) 1) mNil)) mNil)))))
def g__law_pick : Fn := fun as => fin0 [true, false] (m__law_pick (as ++ List.replicate 0 .un))

def N__law_upto : List Str := ["store", "top", "way", "value", "k"]
def mb__law_upto_0 : MS := (mSet 3 (mBin (lift2 fDiv) (mVar (cvL []) 3) (mC (.int 10))))
def m__law_upto : MS := (mSeq (mSet 2 (mCall [true, false] g__law_take (mCons (mVar (cvL []) 0) (mCons (mC (.int 9)) mNil))))
    (mSeq (mIf (mTest (mBin (lift2 fEq) (mVar (cvL []) 2) (mC (.int 0)))) (mRet (mC (.int 0))) mNext)
    (mSeq (mIf (mTest (mBin (lift2 fLt) (mVar (cvL []) 2) (mC (.int 3)))) (mRet (mCallB fMax (mCons (mC (.int 0)) (mCons (mBin (lift2 fSub) (mBin (lift2 fAdd) (mVar (cvL []) 1) (mC (.int 1))) (mVar (cvL []) 2)) mNil)))) mNext)
    (mSeq (mIf (mTest (mBin (lift2 fLt) (mVar (cvL []) 2) (mC (.int 6)))) (mRet (mCallB fMin (mCons (mVar (cvL []) 1) (mCons (mCall [true, false] g__law_take (mCons (mVar (cvL []) 0) (mCons (mC (.int 4)) mNil))) mNil)))) mNext)
    (mSeq (mIf (mTest (mBin (lift2 fEq) (mVar (cvL []) 2) (mC (.int 6)))) (mRet (mCallB fMin (mCons (mVar (cvL []) 1) (mCons (mCall [true, false] g__law_take (mCons (mVar (cvL []) 0) (mCons (mC (.int 100)) mNil))) mNil)))) mNext)
    (mSeq (mSet 3 (mCall [true, false] g__law_take (mCons (mVar (cvL []) 0) (mCons (mBin (lift2 fAdd) (mVar (cvL []) 1) (mC (.int 1))) mNil))))
    (mSeq (mIf (mTest (mBin (lift2 fEq) (mVar (cvL []) 2) (mC (.int 7)))) (mFor (mRange1 (mCall [true, false] g__law_take (mCons (mVar (cvL []) 0) (mCons (mC (.int 30)) mNil)))) (sto 4) mb__law_upto_0) mNext)
    (mRet (mVar (cvL []) 3)))))))))
def st__law_upto_0 : MS := (mSet 2 (mCall [true, false] g__law_take (mCons (mVar (cvL []) 0) (mCons (mC (.int 9)) mNil))))
def st__law_upto_1 : MS := (mIf (mTest (mBin (lift2 fEq) (mVar (cvL []) 2) (mC (.int 0)))) (mRet (mC (.int 0))) mNext)
def st__law_upto_2 : MS := (mIf (mTest (mBin (lift2 fLt) (mVar (cvL []) 2) (mC (.int 3)))) (mRet (mCallB fMax (mCons (mC (.int 0)) (mCons (mBin (lift2 fSub) (mBin (lift2 fAdd) (mVar (cvL []) 1) (mC (.int 1))) (mVar (cvL []) 2)) mNil)))) mNext)
def st__law_upto_3 : MS := (mIf (mTest (mBin (lift2 fLt) (mVar (cvL []) 2) (mC (.int 6)))) (mRet (mCallB fMin (mCons (mVar (cvL []) 1) (mCons (mCall [true, false] g__law_take (mCons (mVar (cvL []) 0) (mCons (mC (.int 4)) mNil))) mNil)))) mNext)
def st__law_upto_4 : MS := (mIf (mTest (mBin (lift2 fEq) (mVar (cvL []) 2) (mC (.int 6)))) (mRet (mCallB fMin (mCons (mVar (cvL []) 1) (mCons (mCall [true, false] g__law_take (mCons (mVar (cvL []) 0) (mCons (mC (.int 100)) mNil))) mNil)))) mNext)
def st__law_upto_5 : MS := (mSet 3 (mCall [true, false] g__law_take (mCons (mVar (cvL []) 0) (mCons (mBin (lift2 fAdd) (mVar (cvL []) 1) (mC (.int 1))) mNil))))
def st__law_upto_6 : MS := (mIf (mTest (mBin (lift2 fEq) (mVar (cvL []) 2) (mC (.int 7)))) (mFor (mRange1 (mCall [true, false] g__law_take (mCons (mVar (cvL []) 0) (mCons (mC (.int 30)) mNil)))) (sto 4) mb__law_upto_0) mNext)
def st__law_upto_7 : MS := (mRet (mVar (cvL []) 3))
theorem m__law_upto_eq : m__law_upto = (mSeq (st__law_upto_0) (mSeq (st__law_upto_1) (mSeq (st__law_upto_2) (mSeq (st__law_upto_3) (mSeq (st__law_upto_4) (mSeq (st__law_upto_5) (mSeq (st__law_upto_6) (st__law_upto_7)))))))) := rfl
def g__law_upto : Fn := fun as => fin0 [true, false] (m__law_upto (as ++ List.replicate 3 .un))

def N__law_kind : List Str := ["value"]
def m__law_kind : MS := (mSeq (mIf (mTest (mBin (lift2 (fIs false)) (mVar (cvL []) 0) (mC .non))) (mRet (mC (.int 0))) mNext)
    (mSeq (mIf (mTru (mIsi [.bl] (mVar (cvL []) 0))) (mRet (mC (.int 1))) mNext)
    (mSeq (mIf (mTru (mIsi [.int] (mVar (cvL []) 0))) (mRet (mC (.int 2))) mNext)
    (mSeq (mIf (mTru (mIsi [.str] (mVar (cvL []) 0))) (mRet (mC (.int 3))) mNext)
    (mSeq (mIf (mTru (mIsi [.lst] (mVar (cvL []) 0))) (mRet (mC (.int 4))) mNext)
    (mSeq (mIf (mTru (mIsi [.tup] (mVar (cvL []) 0))) (mRet (mC (.int 5))) mNext)
    (mRet (mC (.int 6)))))))))
def st__law_kind_0 : MS := (mIf (mTest (mBin (lift2 (fIs false)) (mVar (cvL []) 0) (mC .non))) (mRet (mC (.int 0))) mNext)
def st__law_kind_1 : MS := (mIf (mTru (mIsi [.bl] (mVar (cvL []) 0))) (mRet (mC (.int 1))) mNext)
def st__law_kind_2 : MS := (mIf (mTru (mIsi [.int] (mVar (cvL []) 0))) (mRet (mC (.int 2))) mNext)
def st__law_kind_3 : MS := (mIf (mTru (mIsi [.str] (mVar (cvL []) 0))) (mRet (mC (.int 3))) mNext)
def st__law_kind_4 : MS := (mIf (mTru (mIsi [.lst] (mVar (cvL []) 0))) (mRet (mC (.int 4))) mNext)
def st__law_kind_5 : MS := (mIf (mTru (mIsi [.tup] (mVar (cvL []) 0))) (mRet (mC (.int 5))) mNext)
def st__law_kind_6 : MS := (mRet (mC (.int 6)))
theorem m__law_kind_eq : m__law_kind = (mSeq (st__law_kind_0) (mSeq (st__law_kind_1) (mSeq (st__law_kind_2) (mSeq (st__law_kind_3) (mSeq (st__law_kind_4) (mSeq (st__law_kind_5) (st__law_kind_6))))))) := rfl
def g__law_kind : Fn := fun as => fin0 [false] (m__law_kind (as ++ List.replicate 0 .un))

def N__law_same : List Str := ["one", "two", "pairs", "k", "pair", "kind", "at"]
def mb__law_same_0 : MS := (mExpr (mMeth 2 (mCons (mTup (mCons (mBin (lift2 fIx) (mBin (lift2 fIx) (mVar (cvL []) 4) (mC (.int 0))) (mVar (cvL []) 6)) (mCons (mBin (lift2 fIx) (mBin (lift2 fIx) (mVar (cvL []) 4) (mC (.int 1))) (mVar (cvL []) 6)) mNil))) mNil) (kAppend 2)))
def mb__law_same_1 : MS := (mSeq (mIf (mTest (mBin (lift2 fEq) (mCallB fLen (mCons (mVar (cvL []) 2) mNil)) (mC (.int 0)))) (mRet (mC (.bl true))) mNext)
    (mSeq (mSet 4 (mMeth 2 mNil (kPop 2)))
    (mSeq (mSet 5 (mCallP 1 g__law_kind (mCons (mBin (lift2 fIx) (mVar (cvL []) 4) (mC (.int 0))) mNil)))
    (mSeq (mIf (mOr (mTest (mBin (lift2 fNe) (mVar (cvL []) 5) (mCallP 1 g__law_kind (mCons (mBin (lift2 fIx) (mVar (cvL []) 4) (mC (.int 1))) mNil)))) (mTest (mBin (lift2 fEq) (mVar (cvL []) 5) (mC (.int 6))))) (mRet (mC (.bl false))) mNext)
    (mIf (mTest (mBin (lift2 fGt) (mVar (cvL []) 5) (mC (.int 3)))) (mSeq (mIf (mTest (mBin (lift2 fNe) (mCallB fLen (mCons (mBin (lift2 fIx) (mVar (cvL []) 4) (mC (.int 0))) mNil)) (mCallB fLen (mCons (mBin (lift2 fIx) (mVar (cvL []) 4) (mC (.int 1))) mNil)))) (mRet (mC (.bl false))) mNext)
    (mFor (mRange1 (mCallB fLen (mCons (mBin (lift2 fIx) (mVar (cvL []) 4) (mC (.int 0))) mNil))) (sto 6) mb__law_same_0)) (mIf (mAnd (mTest (mBin (lift2 fGt) (mVar (cvL []) 5) (mC (.int 0)))) (mTest (mBin (lift2 fNe) (mBin (lift2 fIx) (mVar (cvL []) 4) (mC (.int 0))) (mBin (lift2 fIx) (mVar (cvL []) 4) (mC (.int 1)))))) (mRet (mC (.bl false))) mNext))))))
def m__law_same : MS := (mSeq (mSet 2 (mLst (mCons (mTup (mCons (mVar (cvL []) 0) (mCons (mVar (cvL []) 1) mNil))) mNil)))
    (mSeq (mFor (mRange1 (mC (.int 100000))) (sto 3) mb__law_same_1)
    (mRet (mC (.bl false)))))
def sb__law_same_1_0 : MS := (mIf (mTest (mBin (lift2 fEq) (mCallB fLen (mCons (mVar (cvL []) 2) mNil)) (mC (.int 0)))) (mRet (mC (.bl true))) mNext)
def sb__law_same_1_1 : MS := (mSet 4 (mMeth 2 mNil (kPop 2)))
def sb__law_same_1_2 : MS := (mSet 5 (mCallP 1 g__law_kind (mCons (mBin (lift2 fIx) (mVar (cvL []) 4) (mC (.int 0))) mNil)))
def sb__law_same_1_3 : MS := (mIf (mOr (mTest (mBin (lift2 fNe) (mVar (cvL []) 5) (mCallP 1 g__law_kind (mCons (mBin (lift2 fIx) (mVar (cvL []) 4) (mC (.int 1))) mNil)))) (mTest (mBin (lift2 fEq) (mVar (cvL []) 5) (mC (.int 6))))) (mRet (mC (.bl false))) mNext)
def sb__law_same_1_4 : MS := (mIf (mTest (mBin (lift2 fGt) (mVar (cvL []) 5) (mC (.int 3)))) (mSeq (mIf (mTest (mBin (lift2 fNe) (mCallB fLen (mCons (mBin (lift2 fIx) (mVar (cvL []) 4) (mC (.int 0))) mNil)) (mCallB fLen (mCons (mBin (lift2 fIx) (mVar (cvL []) 4) (mC (.int 1))) mNil)))) (mRet (mC (.bl false))) mNext)
    (mFor (mRange1 (mCallB fLen (mCons (mBin (lift2 fIx) (mVar (cvL []) 4) (mC (.int 0))) mNil))) (sto 6) mb__law_same_0)) (mIf (mAnd (mTest (mBin (lift2 fGt) (mVar (cvL []) 5) (mC (.int 0)))) (mTest (mBin (lift2 fNe) (mBin (lift2 fIx) (mVar (cvL []) 4) (mC (.int 0))) (mBin (lift2 fIx) (mVar (cvL []) 4) (mC (.int 1)))))) (mRet (mC (.bl false))) mNext))
theorem mb__law_same_1_eq : mb__law_same_1 = (mSeq (sb__law_same_1_0) (mSeq (sb__law_same_1_1) (mSeq (sb__law_same_1_2) (mSeq (sb__law_same_1_3) (sb__law_same_1_4))))) := rfl
def st__law_same_0 : MS := (mSet 2 (mLst (mCons (mTup (mCons (mVar (cvL []) 0) (mCons (mVar (cvL []) 1) mNil))) mNil)))
def st__law_same_1 : MS := (mFor (mRange1 (mC (.int 100000))) (sto 3) mb__law_same_1)
def st__law_same_2 : MS := (mRet (mC (.bl false)))
theorem m__law_same_eq : m__law_same = (mSeq (st__law_same_0) (mSeq (st__law_same_1) (st__law_same_2))) := rfl
def g__law_same : Fn := fun as => fin0 [false, false] (m__law_same (as ++ List.replicate 5 .un))

def N__law_copy : List Str := ["value", "form", "parts", "part"]
def me__law_copy_0 (g__law_copy : Fn) : M SV := (mCallP 2 g__law_copy (mCons (mVar (cvL [3]) 3) (mCons (mVar (cvL [3]) 1) mNil)))
def m__law_copy (g__law_copy : Fn) : MS := (mSeq (mIf (mNot (mTru (mIsi [.lst, .tup] (mVar (cvL [3]) 0)))) (mRet (mVar (cvL [3]) 0)) mNext)
    (mSeq (mSet 2 (mLc [3] (mItems (mVar (cvL [3]) 0)) (sto 3) (DL.ret true) (me__law_copy_0 g__law_copy)))
    (mSeq (mIf (mOr (mTest (mBin (lift2 fEq) (mVar (cvL [3]) 1) (mC (.int 2)))) (mAnd (mTest (mBin (lift2 fEq) (mVar (cvL [3]) 1) (mC (.int 0)))) (mTru (mIsi [.tup] (mVar (cvL [3]) 0))))) (mRet (mCallB fTuple (mCons (mVar (cvL [3]) 2) mNil))) mNext)
    (mRet (mVar (cvL [3]) 2)))))
def st__law_copy_0 (g__law_copy : Fn) : MS := (mIf (mNot (mTru (mIsi [.lst, .tup] (mVar (cvL [3]) 0)))) (mRet (mVar (cvL [3]) 0)) mNext)
def st__law_copy_1 (g__law_copy : Fn) : MS := (mSet 2 (mLc [3] (mItems (mVar (cvL [3]) 0)) (sto 3) (DL.ret true) (me__law_copy_0 g__law_copy)))
def st__law_copy_2 (g__law_copy : Fn) : MS := (mIf (mOr (mTest (mBin (lift2 fEq) (mVar (cvL [3]) 1) (mC (.int 2)))) (mAnd (mTest (mBin (lift2 fEq) (mVar (cvL [3]) 1) (mC (.int 0)))) (mTru (mIsi [.tup] (mVar (cvL [3]) 0))))) (mRet (mCallB fTuple (mCons (mVar (cvL [3]) 2) mNil))) mNext)
def st__law_copy_3 (g__law_copy : Fn) : MS := (mRet (mVar (cvL [3]) 2))
theorem m__law_copy_eq (g__law_copy : Fn) : m__law_copy g__law_copy = (mSeq (st__law_copy_0 g__law_copy) (mSeq (st__law_copy_1 g__law_copy) (mSeq (st__law_copy_2 g__law_copy) (st__law_copy_3 g__law_copy)))) := rfl
def gN__law_copy : Nat → Fn
  | 0 => fun _ => none
  | k + 1 => fun as => fin0 [false, false] (m__law_copy (gN__law_copy k) (as ++ List.replicate 2 .un))
def g__law_copy : Fn := gN__law_copy 5

def N__law_mixed : List Str := ["store", "value", "parts", "part"]
def me__law_mixed_0 (g__law_mixed : Fn) : M SV := (mCall [true, false] g__law_mixed (mCons (mVar (cvL [3]) 0) (mCons (mVar (cvL [3]) 3) mNil)))
def m__law_mixed (g__law_mixed : Fn) : MS := (mSeq (mIf (mNot (mTru (mIsi [.lst, .tup] (mVar (cvL [3]) 1)))) (mRet (mVar (cvL [3]) 1)) mNext)
    (mSeq (mSet 2 (mLc [3] (mItems (mVar (cvL [3]) 1)) (sto 3) (DL.ret true) (me__law_mixed_0 g__law_mixed)))
    (mSeq (mIf (mTru (mCall [true, false] g__law_rare (mCons (mVar (cvL [3]) 0) (mCons (mC (.int 2)) mNil)))) (mRet (mCallB fTuple (mCons (mVar (cvL [3]) 2) mNil))) mNext)
    (mRet (mVar (cvL [3]) 2)))))
def st__law_mixed_0 (g__law_mixed : Fn) : MS := (mIf (mNot (mTru (mIsi [.lst, .tup] (mVar (cvL [3]) 1)))) (mRet (mVar (cvL [3]) 1)) mNext)
def st__law_mixed_1 (g__law_mixed : Fn) : MS := (mSet 2 (mLc [3] (mItems (mVar (cvL [3]) 1)) (sto 3) (DL.ret true) (me__law_mixed_0 g__law_mixed)))
def st__law_mixed_2 (g__law_mixed : Fn) : MS := (mIf (mTru (mCall [true, false] g__law_rare (mCons (mVar (cvL [3]) 0) (mCons (mC (.int 2)) mNil)))) (mRet (mCallB fTuple (mCons (mVar (cvL [3]) 2) mNil))) mNext)
def st__law_mixed_3 (g__law_mixed : Fn) : MS := (mRet (mVar (cvL [3]) 2))
theorem m__law_mixed_eq (g__law_mixed : Fn) : m__law_mixed g__law_mixed = (mSeq (st__law_mixed_0 g__law_mixed) (mSeq (st__law_mixed_1 g__law_mixed) (mSeq (st__law_mixed_2 g__law_mixed) (st__law_mixed_3 g__law_mixed)))) := rfl
def gN__law_mixed : Nat → Fn
  | 0 => fun _ => none
  | k + 1 => fun as => fin0 [true, false] (m__law_mixed (gN__law_mixed k) (as ++ List.replicate 2 .un))
def g__law_mixed : Fn := gN__law_mixed 3

def N__law_order : List Str := ["store", "size", "rest", "way", "k", "found"]
def me__law_order_0 : M SV := (mBin (lift2 fSub) (mBin (lift2 fSub) (mVar (cvL [4]) 1) (mC (.int 1))) (mVar (cvL [4]) 4))
def mb__law_order_1 : MS := (mExpr (mMeth 5 (mCons (mMeth 2 (mCons (mCall [true, false] g__law_take (mCons (mVar (cvL [4]) 0) (mCons (mCallB fLen (mCons (mVar (cvL [4]) 2) mNil)) mNil))) mNil) (kPopAt 2)) mNil) (kAppend 5)))
def m__law_order : MS := (mSeq (mSet 2 (mListRg1 (mVar (cvL [4]) 1)))
    (mSeq (mSet 3 (mCall [true, false] g__law_take (mCons (mVar (cvL [4]) 0) (mCons (mC (.int 6)) mNil))))
    (mSeq (mIf (mTest (mBin (lift2 fEq) (mVar (cvL [4]) 3) (mC (.int 0)))) (mRet (mVar (cvL [4]) 2)) mNext)
    (mSeq (mIf (mTest (mBin (lift2 fEq) (mVar (cvL [4]) 3) (mC (.int 1)))) (mRet (mLc [4] (mRange1 (mVar (cvL [4]) 1)) (sto 4) (DL.ret true) me__law_order_0)) mNext)
    (mSeq (mSet 5 (mLst mNil))
    (mSeq (mFor (mRange1 (mVar (cvL [4]) 1)) (sto 4) mb__law_order_1)
    (mRet (mVar (cvL [4]) 5))))))))
def st__law_order_0 : MS := (mSet 2 (mListRg1 (mVar (cvL [4]) 1)))
def st__law_order_1 : MS := (mSet 3 (mCall [true, false] g__law_take (mCons (mVar (cvL [4]) 0) (mCons (mC (.int 6)) mNil))))
def st__law_order_2 : MS := (mIf (mTest (mBin (lift2 fEq) (mVar (cvL [4]) 3) (mC (.int 0)))) (mRet (mVar (cvL [4]) 2)) mNext)
def st__law_order_3 : MS := (mIf (mTest (mBin (lift2 fEq) (mVar (cvL [4]) 3) (mC (.int 1)))) (mRet (mLc [4] (mRange1 (mVar (cvL [4]) 1)) (sto 4) (DL.ret true) me__law_order_0)) mNext)
def st__law_order_4 : MS := (mSet 5 (mLst mNil))
def st__law_order_5 : MS := (mFor (mRange1 (mVar (cvL [4]) 1)) (sto 4) mb__law_order_1)
def st__law_order_6 : MS := (mRet (mVar (cvL [4]) 5))
theorem m__law_order_eq : m__law_order = (mSeq (st__law_order_0) (mSeq (st__law_order_1) (mSeq (st__law_order_2) (mSeq (st__law_order_3) (mSeq (st__law_order_4) (mSeq (st__law_order_5) (st__law_order_6))))))) := rfl
def g__law_order : Fn := fun as => fin0 [true, false] (m__law_order (as ++ List.replicate 4 .un))

def N__law_pile_list : List Str := ["store", "size", "top", "way", "found", "total", "k", "value"]
def mb__law_pile_list_0 : MS := (mSeq (mSet 7 (mBin (lift2 fSub) (mCall [true, false] g__law_take (mCons (mVar (cvL [6]) 0) (mCons (mC (.int 5)) mNil))) (mC (.int 1))))
    (mSeq (mIf (mTest (mBin (lift2 fEq) (mVar (cvL [6]) 3) (mC (.int 1)))) (mSet 7 (mBin (lift2 fSub) (mBin (lift2 fAdd) (mVar (cvL [6]) 5) (mCall [true, false] g__law_take (mCons (mVar (cvL [6]) 0) (mCons (mC (.int 4)) mNil)))) (mC (.int 1)))) mNext)
    (mSeq (mIf (mTest (mBin (lift2 fEq) (mVar (cvL [6]) 3) (mC (.int 2)))) (mSet 7 (mCall [true, false] g__law_upto (mCons (mVar (cvL [6]) 0) (mCons (mVar (cvL [6]) 2) mNil)))) mNext)
    (mSeq (mIf (mTru (mCall [true, false] g__law_rare (mCons (mVar (cvL [6]) 0) (mCons (mC (.int 8)) mNil)))) (mSet 7 (mUn fNeg (mC (.int 1)))) mNext)
    (mSeq (mExpr (mMeth 4 (mCons (mCallB fMin (mCons (mVar (cvL [6]) 2) (mCons (mVar (cvL [6]) 7) mNil))) mNil) (kAppend 4)))
    (mSet 5 (mCallB fMin (mCons (mVar (cvL [6]) 2) (mCons (mBin (lift2 fAdd) (mVar (cvL [6]) 5) (mCallB fMax (mCons (mC (.int 0)) (mCons (mVar (cvL [6]) 7) mNil)))) mNil)))))))))
def me__law_pile_list_1 : M SV := (mBin (lift2 fIx) (mVar (cvL [6]) 4) (mVar (cvL [6]) 6))
def m__law_pile_list : MS := (mSeq (mSet 3 (mCall [true, false] g__law_take (mCons (mVar (cvL [6]) 0) (mCons (mC (.int 3)) mNil))))
    (mSeq (mSet 4 (mLst mNil))
    (mSeq (mSet 5 (mC (.int 0)))
    (mSeq (mFor (mRange1 (mVar (cvL [6]) 1)) (sto 6) mb__law_pile_list_0)
    (mRet (mLc [6] (mItems (mCall [true, false] g__law_order (mCons (mVar (cvL [6]) 0) (mCons (mVar (cvL [6]) 1) mNil)))) (sto 6) (DL.ret true) me__law_pile_list_1))))))
def sb__law_pile_list_0_0 : MS := (mSet 7 (mBin (lift2 fSub) (mCall [true, false] g__law_take (mCons (mVar (cvL [6]) 0) (mCons (mC (.int 5)) mNil))) (mC (.int 1))))
def sb__law_pile_list_0_1 : MS := (mIf (mTest (mBin (lift2 fEq) (mVar (cvL [6]) 3) (mC (.int 1)))) (mSet 7 (mBin (lift2 fSub) (mBin (lift2 fAdd) (mVar (cvL [6]) 5) (mCall [true, false] g__law_take (mCons (mVar (cvL [6]) 0) (mCons (mC (.int 4)) mNil)))) (mC (.int 1)))) mNext)
def sb__law_pile_list_0_2 : MS := (mIf (mTest (mBin (lift2 fEq) (mVar (cvL [6]) 3) (mC (.int 2)))) (mSet 7 (mCall [true, false] g__law_upto (mCons (mVar (cvL [6]) 0) (mCons (mVar (cvL [6]) 2) mNil)))) mNext)
def sb__law_pile_list_0_3 : MS := (mIf (mTru (mCall [true, false] g__law_rare (mCons (mVar (cvL [6]) 0) (mCons (mC (.int 8)) mNil)))) (mSet 7 (mUn fNeg (mC (.int 1)))) mNext)
def sb__law_pile_list_0_4 : MS := (mExpr (mMeth 4 (mCons (mCallB fMin (mCons (mVar (cvL [6]) 2) (mCons (mVar (cvL [6]) 7) mNil))) mNil) (kAppend 4)))
def sb__law_pile_list_0_5 : MS := (mSet 5 (mCallB fMin (mCons (mVar (cvL [6]) 2) (mCons (mBin (lift2 fAdd) (mVar (cvL [6]) 5) (mCallB fMax (mCons (mC (.int 0)) (mCons (mVar (cvL [6]) 7) mNil)))) mNil))))
theorem mb__law_pile_list_0_eq : mb__law_pile_list_0 = (mSeq (sb__law_pile_list_0_0) (mSeq (sb__law_pile_list_0_1) (mSeq (sb__law_pile_list_0_2) (mSeq (sb__law_pile_list_0_3) (mSeq (sb__law_pile_list_0_4) (sb__law_pile_list_0_5)))))) := rfl
def st__law_pile_list_0 : MS := (mSet 3 (mCall [true, false] g__law_take (mCons (mVar (cvL [6]) 0) (mCons (mC (.int 3)) mNil))))
def st__law_pile_list_1 : MS := (mSet 4 (mLst mNil))
def st__law_pile_list_2 : MS := (mSet 5 (mC (.int 0)))
def st__law_pile_list_3 : MS := (mFor (mRange1 (mVar (cvL [6]) 1)) (sto 6) mb__law_pile_list_0)
def st__law_pile_list_4 : MS := (mRet (mLc [6] (mItems (mCall [true, false] g__law_order (mCons (mVar (cvL [6]) 0) (mCons (mVar (cvL [6]) 1) mNil)))) (sto 6) (DL.ret true) me__law_pile_list_1))
theorem m__law_pile_list_eq : m__law_pile_list = (mSeq (st__law_pile_list_0) (mSeq (st__law_pile_list_1) (mSeq (st__law_pile_list_2) (mSeq (st__law_pile_list_3) (st__law_pile_list_4))))) := rfl
def g__law_pile_list : Fn := fun as => fin0 [true, false, false] (m__law_pile_list (as ++ List.replicate 5 .un))

def N__law_due_least : List Str := ["piles", "keys", "k"]
def me__law_due_least_0 : M SV := (mTup (mCons (mBin (lift2 fIx) (mVar (cvL [2]) 0) (mVar (cvL [2]) 2)) (mCons (mVar (cvL [2]) 2) mNil)))
def mt__law_due_least_1 : M Bool := (mTest (mBin (lift2 fGe) (mBin (lift2 fIx) (mVar (cvL [2]) 0) (mVar (cvL [2]) 2)) (mC (.int 0))))
def m__law_due_least : MS := (mSeq (mSet 1 (mCallB fSortedIP (mCons (mLc [2] (mRange1 (mCallB fLen (mCons (mVar (cvL [2]) 0) mNil))) (sto 2) mt__law_due_least_1 me__law_due_least_0) mNil)))
    (mSeq (mIf (mTest (mBin (lift2 fEq) (mCallB fLen (mCons (mVar (cvL [2]) 1) mNil)) (mC (.int 0)))) (mRet (mUn fNeg (mC (.int 1)))) mNext)
    (mRet (mBin (lift2 fIx) (mBin (lift2 fIx) (mVar (cvL [2]) 1) (mC (.int 0))) (mC (.int 1))))))
def st__law_due_least_0 : MS := (mSet 1 (mCallB fSortedIP (mCons (mLc [2] (mRange1 (mCallB fLen (mCons (mVar (cvL [2]) 0) mNil))) (sto 2) mt__law_due_least_1 me__law_due_least_0) mNil)))
def st__law_due_least_1 : MS := (mIf (mTest (mBin (lift2 fEq) (mCallB fLen (mCons (mVar (cvL [2]) 1) mNil)) (mC (.int 0)))) (mRet (mUn fNeg (mC (.int 1)))) mNext)
def st__law_due_least_2 : MS := (mRet (mBin (lift2 fIx) (mBin (lift2 fIx) (mVar (cvL [2]) 1) (mC (.int 0))) (mC (.int 1))))
theorem m__law_due_least_eq : m__law_due_least = (mSeq (st__law_due_least_0) (mSeq (st__law_due_least_1) (st__law_due_least_2))) := rfl
def g__law_due_least : Fn := fun as => fin0 [false] (m__law_due_least (as ++ List.replicate 2 .un))

def N__law_due_widest : List Str := ["piles", "k", "rest", "row", "turn", "best", "allowed", "many", "batch", "total", "bar"]
def me__law_due_widest_0 : M SV := (mVar (cvL [1]) 1)
def mt__law_due_widest_1 : M Bool := (mTest (mBin (lift2 fGe) (mBin (lift2 fIx) (mVar (cvL [1]) 0) (mVar (cvL [1]) 1)) (mC (.int 0))))
def mb__law_due_widest_2 : MS := (mIf (mAnd (mTest (mBin (lift2 (fIn true)) (mVar (cvL [1]) 1) (mVar (cvL [1]) 3))) (mOr (mTest (mBin (lift2 fLt) (mVar (cvL [1]) 5) (mC (.int 0)))) (mTest (mBin (lift2 fLt) (mBin (lift2 fIx) (mVar (cvL [1]) 0) (mVar (cvL [1]) 1)) (mBin (lift2 fIx) (mVar (cvL [1]) 0) (mVar (cvL [1]) 5)))))) (mSet 5 (mVar (cvL [1]) 1)) mNext)
def mb__law_due_widest_3 : MS := (mSeq (mSet 5 (mUn fNeg (mC (.int 1))))
    (mSeq (mFor (mItems (mVar (cvL [1]) 2)) (sto 1) mb__law_due_widest_2)
    (mIf (mTest (mBin (lift2 fGe) (mVar (cvL [1]) 5) (mC (.int 0)))) (mExpr (mMeth 3 (mCons (mVar (cvL [1]) 5) mNil) (kAppend 3))) mNext)))
def me__law_due_widest_4 : M SV := (mBin (lift2 fIx) (mVar (cvL [1]) 0) (mVar (cvL [1]) 1))
def mb__law_due_widest_5 : MS := (mSeq (mSet 8 (mSl (mVar (cvL [1]) 3) mNoPart (mPart (mVar (cvL [1]) 7))))
    (mSeq (mSet 9 (mCallB fSum (mCons (mLcV [1] (cvL [1]) 8 (sto 1) (DL.ret true) me__law_due_widest_4) mNil)))
    (mSeq (mSet 10 (mBin (lift2 fIx) (mVar (cvL [1]) 3) (mVar (cvL [1]) 7)))
    (mIf (mOr (mTest (mBin (lift2 fLt) (mVar (cvL [1]) 9) (mBin (lift2 fIx) (mVar (cvL [1]) 0) (mVar (cvL [1]) 10)))) (mAnd (mTest (mBin (lift2 fEq) (mVar (cvL [1]) 9) (mBin (lift2 fIx) (mVar (cvL [1]) 0) (mVar (cvL [1]) 10)))) (mTest (mBin (lift2 fLt) (mCallB fMax (mCons (mVar (cvL [1]) 8) mNil)) (mVar (cvL [1]) 10))))) (mExpr (mMeth 6 (mCons (mVar (cvL [1]) 7) mNil) (kAppend 6))) mNext))))
def m__law_due_widest : MS := (mSeq (mSet 2 (mLc [1] (mRange1 (mCallB fLen (mCons (mVar (cvL [1]) 0) mNil))) (sto 1) mt__law_due_widest_1 me__law_due_widest_0))
    (mSeq (mSet 3 (mLst mNil))
    (mSeq (mFor (mRange1 (mCallB fLen (mCons (mVar (cvL [1]) 0) mNil))) (sto 4) mb__law_due_widest_3)
    (mSeq (mSet 6 (mLst (mCons (mC (.int 0)) mNil)))
    (mSeq (mFor (mRange2 (mC (.int 1)) (mCallB fLen (mCons (mVar (cvL [1]) 3) mNil))) (sto 7) mb__law_due_widest_5)
    (mRet (mBin (lift2 fIx) (mVar (cvL [1]) 6) (mUn fNeg (mC (.int 1))))))))))
def sb__law_due_widest_3_0 : MS := (mSet 5 (mUn fNeg (mC (.int 1))))
def sb__law_due_widest_3_1 : MS := (mFor (mItems (mVar (cvL [1]) 2)) (sto 1) mb__law_due_widest_2)
def sb__law_due_widest_3_2 : MS := (mIf (mTest (mBin (lift2 fGe) (mVar (cvL [1]) 5) (mC (.int 0)))) (mExpr (mMeth 3 (mCons (mVar (cvL [1]) 5) mNil) (kAppend 3))) mNext)
theorem mb__law_due_widest_3_eq : mb__law_due_widest_3 = (mSeq (sb__law_due_widest_3_0) (mSeq (sb__law_due_widest_3_1) (sb__law_due_widest_3_2))) := rfl
def sb__law_due_widest_5_0 : MS := (mSet 8 (mSl (mVar (cvL [1]) 3) mNoPart (mPart (mVar (cvL [1]) 7))))
def sb__law_due_widest_5_1 : MS := (mSet 9 (mCallB fSum (mCons (mLcV [1] (cvL [1]) 8 (sto 1) (DL.ret true) me__law_due_widest_4) mNil)))
def sb__law_due_widest_5_2 : MS := (mSet 10 (mBin (lift2 fIx) (mVar (cvL [1]) 3) (mVar (cvL [1]) 7)))
def sb__law_due_widest_5_3 : MS := (mIf (mOr (mTest (mBin (lift2 fLt) (mVar (cvL [1]) 9) (mBin (lift2 fIx) (mVar (cvL [1]) 0) (mVar (cvL [1]) 10)))) (mAnd (mTest (mBin (lift2 fEq) (mVar (cvL [1]) 9) (mBin (lift2 fIx) (mVar (cvL [1]) 0) (mVar (cvL [1]) 10)))) (mTest (mBin (lift2 fLt) (mCallB fMax (mCons (mVar (cvL [1]) 8) mNil)) (mVar (cvL [1]) 10))))) (mExpr (mMeth 6 (mCons (mVar (cvL [1]) 7) mNil) (kAppend 6))) mNext)
theorem mb__law_due_widest_5_eq : mb__law_due_widest_5 = (mSeq (sb__law_due_widest_5_0) (mSeq (sb__law_due_widest_5_1) (mSeq (sb__law_due_widest_5_2) (sb__law_due_widest_5_3)))) := rfl
def st__law_due_widest_0 : MS := (mSet 2 (mLc [1] (mRange1 (mCallB fLen (mCons (mVar (cvL [1]) 0) mNil))) (sto 1) mt__law_due_widest_1 me__law_due_widest_0))
def st__law_due_widest_1 : MS := (mSet 3 (mLst mNil))
def st__law_due_widest_2 : MS := (mFor (mRange1 (mCallB fLen (mCons (mVar (cvL [1]) 0) mNil))) (sto 4) mb__law_due_widest_3)
def st__law_due_widest_3 : MS := (mSet 6 (mLst (mCons (mC (.int 0)) mNil)))
def st__law_due_widest_4 : MS := (mFor (mRange2 (mC (.int 1)) (mCallB fLen (mCons (mVar (cvL [1]) 3) mNil))) (sto 7) mb__law_due_widest_5)
def st__law_due_widest_5 : MS := (mRet (mBin (lift2 fIx) (mVar (cvL [1]) 6) (mUn fNeg (mC (.int 1)))))
theorem m__law_due_widest_eq : m__law_due_widest = (mSeq (st__law_due_widest_0) (mSeq (st__law_due_widest_1) (mSeq (st__law_due_widest_2) (mSeq (st__law_due_widest_3) (mSeq (st__law_due_widest_4) (st__law_due_widest_5)))))) := rfl
def g__law_due_widest : Fn := fun as => fin0 [false] (m__law_due_widest (as ++ List.replicate 10 .un))

def N__law_gap : List Str := ["store", "size", "value", "piles", "total", "k"]
def mb__law_gap_0 : MS := (mSeq (mSet 4 (mBin (lift2 fAdd) (mVar (cvL [5]) 4) (mBin (lift2 fIx) (mVar (cvL [5]) 3) (mUn fNeg (mC (.int 1))))))
    (mExpr (mMeth 3 (mCons (mVar (cvL [5]) 4) mNil) (kAppend 3))))
def me__law_gap_1 : M SV := (mBin (lift2 fIx) (mVar (cvL [5]) 3) (mVar (cvL [5]) 5))
def m__law_gap : MS := (mSeq (mSet 2 (mBin (lift2 fAdd) (mC (.int 1)) (mCall [true, false] g__law_upto (mCons (mVar (cvL [5]) 0) (mCons (mBin (lift2 fPow) (mC (.int 10)) (mC (.int 20))) mNil)))))
    (mSeq (mSet 3 (mLst (mCons (mVar (cvL [5]) 2) (mCons (mVar (cvL [5]) 2) (mCons (mBin (lift2 fAdd) (mVar (cvL [5]) 2) (mCall [true, false] g__law_take (mCons (mVar (cvL [5]) 0) (mCons (mC (.int 2)) mNil)))) mNil)))))
    (mSeq (mSet 4 (mCallB fSum (mCons (mVar (cvL [5]) 3) mNil)))
    (mSeq (mFor (mRange2 (mC (.int 3)) (mVar (cvL [5]) 1)) (sto 5) mb__law_gap_0)
    (mRet (mLc [5] (mItems (mCall [true, false] g__law_order (mCons (mVar (cvL [5]) 0) (mCons (mCallB fLen (mCons (mVar (cvL [5]) 3) mNil)) mNil)))) (sto 5) (DL.ret true) me__law_gap_1))))))
def sb__law_gap_0_0 : MS := (mSet 4 (mBin (lift2 fAdd) (mVar (cvL [5]) 4) (mBin (lift2 fIx) (mVar (cvL [5]) 3) (mUn fNeg (mC (.int 1))))))
def sb__law_gap_0_1 : MS := (mExpr (mMeth 3 (mCons (mVar (cvL [5]) 4) mNil) (kAppend 3)))
theorem mb__law_gap_0_eq : mb__law_gap_0 = (mSeq (sb__law_gap_0_0) (sb__law_gap_0_1)) := rfl
def st__law_gap_0 : MS := (mSet 2 (mBin (lift2 fAdd) (mC (.int 1)) (mCall [true, false] g__law_upto (mCons (mVar (cvL [5]) 0) (mCons (mBin (lift2 fPow) (mC (.int 10)) (mC (.int 20))) mNil)))))
def st__law_gap_1 : MS := (mSet 3 (mLst (mCons (mVar (cvL [5]) 2) (mCons (mVar (cvL [5]) 2) (mCons (mBin (lift2 fAdd) (mVar (cvL [5]) 2) (mCall [true, false] g__law_take (mCons (mVar (cvL [5]) 0) (mCons (mC (.int 2)) mNil)))) mNil)))))
def st__law_gap_2 : MS := (mSet 4 (mCallB fSum (mCons (mVar (cvL [5]) 3) mNil)))
def st__law_gap_3 : MS := (mFor (mRange2 (mC (.int 3)) (mVar (cvL [5]) 1)) (sto 5) mb__law_gap_0)
def st__law_gap_4 : MS := (mRet (mLc [5] (mItems (mCall [true, false] g__law_order (mCons (mVar (cvL [5]) 0) (mCons (mCallB fLen (mCons (mVar (cvL [5]) 3) mNil)) mNil)))) (sto 5) (DL.ret true) me__law_gap_1))
theorem m__law_gap_eq : m__law_gap = (mSeq (st__law_gap_0) (mSeq (st__law_gap_1) (mSeq (st__law_gap_2) (mSeq (st__law_gap_3) (st__law_gap_4))))) := rfl
def g__law_gap : Fn := fun as => fin0 [true, false] (m__law_gap (as ++ List.replicate 4 .un))

def N__law_asked : List Str := ["store", "size", "top", "way", "piles", "at", "k", "pile"]
def me__law_asked_0 : M SV := (mCall [true, false] g__law_pick (mCons (mVar (cvL [6, 7]) 0) (mCons (mLst (mCons (mUn fNeg (mC (.int 1))) (mCons (mC (.int 0)) (mCons (mC (.int 0)) (mCons (mC (.int 1)) mNil))))) mNil)))
def me__law_asked_1 : M SV := (mVar (cvL [6, 7]) 7)
def mt__law_asked_2 : M Bool := (mTest (mBin (lift2 fGe) (mVar (cvL [6, 7]) 7) (mC (.int 0))))
def m__law_asked : MS := (mSeq (mSet 3 (mCall [true, false] g__law_take (mCons (mVar (cvL [6, 7]) 0) (mCons (mC (.int 4)) mNil))))
    (mSeq (mIf (mTest (mBin (lift2 fEq) (mVar (cvL [6, 7]) 3) (mC (.int 0)))) (mRet (mCall [true, false] g__law_gap (mCons (mVar (cvL [6, 7]) 0) (mCons (mVar (cvL [6, 7]) 1) mNil)))) mNext)
    (mSeq (mIf (mTest (mBin (lift2 fEq) (mVar (cvL [6, 7]) 3) (mC (.int 1)))) (mRet (mLc [6] (mRange1 (mVar (cvL [6, 7]) 1)) (sto 6) (DL.ret true) me__law_asked_0)) mNext)
    (mSeq (mSet 4 (mCall [true, false, false] g__law_pile_list (mCons (mVar (cvL [6, 7]) 0) (mCons (mVar (cvL [6, 7]) 1) (mCons (mVar (cvL [6, 7]) 2) mNil)))))
    (mSeq (mIf (mAnd (mTest (mBin (lift2 fEq) (mVar (cvL [6, 7]) 3) (mC (.int 2)))) (mTest (mBin (lift2 fGt) (mVar (cvL [6, 7]) 1) (mC (.int 1))))) (mSeq (mSet 5 (mCall [true, false] g__law_take (mCons (mVar (cvL [6, 7]) 0) (mCons (mVar (cvL [6, 7]) 1) mNil))))
    (mSeq (mSetAt 4 (mCallB fSum (mCons (mLcV [7] (cvL [6, 7]) 4 (sto 7) mt__law_asked_2 me__law_asked_1) mNil)) (mVar (cvL [6, 7]) 5))
    (mIf (mTru (mCall [true, false] g__law_rare (mCons (mVar (cvL [6, 7]) 0) (mCons (mC (.int 2)) mNil)))) (mSetAt 4 (mCallB fMin (mCons (mBin (lift2 fIx) (mVar (cvL [6, 7]) 4) (mVar (cvL [6, 7]) 5)) (mCons (mBin (lift2 fIx) (mVar (cvL [6, 7]) 4) (mBin (lift2 fMod) (mCallB fInt (mCons (mBin (lift2 fAdd) (mVar (cvL [6, 7]) 5) (mC (.int 1))) mNil)) (mVar (cvL [6, 7]) 1))) mNil))) (mVar (cvL [6, 7]) 5)) mNext))) mNext)
    (mRet (mVar (cvL [6, 7]) 4)))))))
def st__law_asked_0 : MS := (mSet 3 (mCall [true, false] g__law_take (mCons (mVar (cvL [6, 7]) 0) (mCons (mC (.int 4)) mNil))))
def st__law_asked_1 : MS := (mIf (mTest (mBin (lift2 fEq) (mVar (cvL [6, 7]) 3) (mC (.int 0)))) (mRet (mCall [true, false] g__law_gap (mCons (mVar (cvL [6, 7]) 0) (mCons (mVar (cvL [6, 7]) 1) mNil)))) mNext)
def st__law_asked_2 : MS := (mIf (mTest (mBin (lift2 fEq) (mVar (cvL [6, 7]) 3) (mC (.int 1)))) (mRet (mLc [6] (mRange1 (mVar (cvL [6, 7]) 1)) (sto 6) (DL.ret true) me__law_asked_0)) mNext)
def st__law_asked_3 : MS := (mSet 4 (mCall [true, false, false] g__law_pile_list (mCons (mVar (cvL [6, 7]) 0) (mCons (mVar (cvL [6, 7]) 1) (mCons (mVar (cvL [6, 7]) 2) mNil)))))
def st__law_asked_4 : MS := (mIf (mAnd (mTest (mBin (lift2 fEq) (mVar (cvL [6, 7]) 3) (mC (.int 2)))) (mTest (mBin (lift2 fGt) (mVar (cvL [6, 7]) 1) (mC (.int 1))))) (mSeq (mSet 5 (mCall [true, false] g__law_take (mCons (mVar (cvL [6, 7]) 0) (mCons (mVar (cvL [6, 7]) 1) mNil))))
    (mSeq (mSetAt 4 (mCallB fSum (mCons (mLcV [7] (cvL [6, 7]) 4 (sto 7) mt__law_asked_2 me__law_asked_1) mNil)) (mVar (cvL [6, 7]) 5))
    (mIf (mTru (mCall [true, false] g__law_rare (mCons (mVar (cvL [6, 7]) 0) (mCons (mC (.int 2)) mNil)))) (mSetAt 4 (mCallB fMin (mCons (mBin (lift2 fIx) (mVar (cvL [6, 7]) 4) (mVar (cvL [6, 7]) 5)) (mCons (mBin (lift2 fIx) (mVar (cvL [6, 7]) 4) (mBin (lift2 fMod) (mCallB fInt (mCons (mBin (lift2 fAdd) (mVar (cvL [6, 7]) 5) (mC (.int 1))) mNil)) (mVar (cvL [6, 7]) 1))) mNil))) (mVar (cvL [6, 7]) 5)) mNext))) mNext)
def st__law_asked_5 : MS := (mRet (mVar (cvL [6, 7]) 4))
theorem m__law_asked_eq : m__law_asked = (mSeq (st__law_asked_0) (mSeq (st__law_asked_1) (mSeq (st__law_asked_2) (mSeq (st__law_asked_3) (mSeq (st__law_asked_4) (st__law_asked_5)))))) := rfl
def g__law_asked : Fn := fun as => fin0 [true, false, false] (m__law_asked (as ++ List.replicate 5 .un))

def N__law_right : List Str := ["store", "piles", "handed", "turn", "kept", "due", "got", "lower", "at", "pile"]
def me__law_right_0 : M SV := (mBin (lift2 fSub) (mBin (lift2 fSub) (mVar (cvL [9]) 9) (mBin (lift2 fMul) (mC (.int 3)) (mCallB fInt (mCons (mBin (lift2 fLt) (mVar (cvL [9]) 9) (mC (.int 3))) mNil)))) (mBin (lift2 fMul) (mBin (lift2 fPow) (mC (.int 10)) (mC (.int 29))) (mCallB fInt (mCons (mBin (lift2 fLt) (mVar (cvL [9]) 9) (mC (.int 0))) mNil))))
def mb__law_right_1 : MS := (mSeq (mSet 4 (mCallP 2 g__law_copy (mCons (mVar (cvL [9]) 2) (mCons (mC (.int 0)) mNil))))
    (mSeq (mSet 5 (mLst (mCons (mCallP 1 g__law_due_least (mCons (mCallB fList (mCons (mVar (cvL [9]) 2) mNil)) mNil)) (mCons (mCallP 1 g__law_due_widest (mCons (mCallB fList (mCons (mVar (cvL [9]) 2) mNil)) mNil)) mNil))))
    (mSeq (mSet 6 (mLst (mCons (mCallP 1 g_least_name (mCons (mVar (cvL [9]) 2) mNil)) (mCons (mCallP 1 g_widest_batch (mCons (mVar (cvL [9]) 2) mNil)) mNil))))
    (mSeq (mIf (mOr (mNot (mTru (mCallP 2 g__law_same (mCons (mVar (cvL [9]) 6) (mCons (mVar (cvL [9]) 5) mNil))))) (mNot (mTru (mCallP 2 g__law_same (mCons (mVar (cvL [9]) 2) (mCons (mVar (cvL [9]) 4) mNil)))))) (mRet (mC (.bl false))) mNext)
    (mSeq (mSet 7 (mLcV [9] (cvL [9]) 2 (sto 9) (DL.ret true) me__law_right_0))
    (mSeq (mIf (mNot (mTru (mCallP 2 g__law_same (mCons (mCallP 1 g_least_name (mCons (mVar (cvL [9]) 7) mNil)) (mCons (mCallP 1 g__law_due_least (mCons (mVar (cvL [9]) 7) mNil)) mNil))))) (mRet (mC (.bl false))) mNext)
    (mIf (mAnd (mTru (mIsi [.lst] (mVar (cvL [9]) 2))) (mTest (mBin (lift2 fGt) (mCallB fLen (mCons (mVar (cvL [9]) 2) mNil)) (mC (.int 0))))) (mSeq (mSet 8 (mCall [true, false] g__law_take (mCons (mVar (cvL [9]) 0) (mCons (mCallB fLen (mCons (mVar (cvL [9]) 2) mNil)) mNil))))
    (mSetAt 2 (mCall [true, false] g__law_pick (mCons (mVar (cvL [9]) 0) (mCons (mLst (mCons (mUn fNeg (mC (.int 1))) (mCons (mC (.int 0)) (mCons (mC (.int 1)) (mCons (mCallB fMax (mCons (mVar (cvL [9]) 2) mNil)) (mCons (mCallB fMax (mCons (mC (.int 0)) (mCons (mBin (lift2 fSub) (mCallB fMax (mCons (mVar (cvL [9]) 2) mNil)) (mC (.int 1))) mNil))) mNil)))))) mNil))) (mVar (cvL [9]) 8))) mNext)))))))
def m__law_right : MS := (mSeq (mSet 2 (mCall [true, false] g__law_mixed (mCons (mVar (cvL [9]) 0) (mCons (mVar (cvL [9]) 1) mNil))))
    (mSeq (mFor (mRange1 (mC (.int 2))) (sto 3) mb__law_right_1)
    (mRet (mC (.bl true)))))
def sb__law_right_1_0 : MS := (mSet 4 (mCallP 2 g__law_copy (mCons (mVar (cvL [9]) 2) (mCons (mC (.int 0)) mNil))))
def sb__law_right_1_1 : MS := (mSet 5 (mLst (mCons (mCallP 1 g__law_due_least (mCons (mCallB fList (mCons (mVar (cvL [9]) 2) mNil)) mNil)) (mCons (mCallP 1 g__law_due_widest (mCons (mCallB fList (mCons (mVar (cvL [9]) 2) mNil)) mNil)) mNil))))
def sb__law_right_1_2 : MS := (mSet 6 (mLst (mCons (mCallP 1 g_least_name (mCons (mVar (cvL [9]) 2) mNil)) (mCons (mCallP 1 g_widest_batch (mCons (mVar (cvL [9]) 2) mNil)) mNil))))
def sb__law_right_1_3 : MS := (mIf (mOr (mNot (mTru (mCallP 2 g__law_same (mCons (mVar (cvL [9]) 6) (mCons (mVar (cvL [9]) 5) mNil))))) (mNot (mTru (mCallP 2 g__law_same (mCons (mVar (cvL [9]) 2) (mCons (mVar (cvL [9]) 4) mNil)))))) (mRet (mC (.bl false))) mNext)
def sb__law_right_1_4 : MS := (mSet 7 (mLcV [9] (cvL [9]) 2 (sto 9) (DL.ret true) me__law_right_0))
def sb__law_right_1_5 : MS := (mIf (mNot (mTru (mCallP 2 g__law_same (mCons (mCallP 1 g_least_name (mCons (mVar (cvL [9]) 7) mNil)) (mCons (mCallP 1 g__law_due_least (mCons (mVar (cvL [9]) 7) mNil)) mNil))))) (mRet (mC (.bl false))) mNext)
def sb__law_right_1_6 : MS := (mIf (mAnd (mTru (mIsi [.lst] (mVar (cvL [9]) 2))) (mTest (mBin (lift2 fGt) (mCallB fLen (mCons (mVar (cvL [9]) 2) mNil)) (mC (.int 0))))) (mSeq (mSet 8 (mCall [true, false] g__law_take (mCons (mVar (cvL [9]) 0) (mCons (mCallB fLen (mCons (mVar (cvL [9]) 2) mNil)) mNil))))
    (mSetAt 2 (mCall [true, false] g__law_pick (mCons (mVar (cvL [9]) 0) (mCons (mLst (mCons (mUn fNeg (mC (.int 1))) (mCons (mC (.int 0)) (mCons (mC (.int 1)) (mCons (mCallB fMax (mCons (mVar (cvL [9]) 2) mNil)) (mCons (mCallB fMax (mCons (mC (.int 0)) (mCons (mBin (lift2 fSub) (mCallB fMax (mCons (mVar (cvL [9]) 2) mNil)) (mC (.int 1))) mNil))) mNil)))))) mNil))) (mVar (cvL [9]) 8))) mNext)
theorem mb__law_right_1_eq : mb__law_right_1 = (mSeq (sb__law_right_1_0) (mSeq (sb__law_right_1_1) (mSeq (sb__law_right_1_2) (mSeq (sb__law_right_1_3) (mSeq (sb__law_right_1_4) (mSeq (sb__law_right_1_5) (sb__law_right_1_6))))))) := rfl
def st__law_right_0 : MS := (mSet 2 (mCall [true, false] g__law_mixed (mCons (mVar (cvL [9]) 0) (mCons (mVar (cvL [9]) 1) mNil))))
def st__law_right_1 : MS := (mFor (mRange1 (mC (.int 2))) (sto 3) mb__law_right_1)
def st__law_right_2 : MS := (mRet (mC (.bl true)))
theorem m__law_right_eq : m__law_right = (mSeq (st__law_right_0) (mSeq (st__law_right_1) (st__law_right_2))) := rfl
def g__law_right : Fn := fun as => fin0 [true, false] (m__law_right (as ++ List.replicate 8 .un))

def N_law : List Str := ["script", "store", "turn", "size", "top", "lone", "at", "pile", "one"]
def mb_law_0 : MS := (mSeq (mSet 3 (mCall [true, false] g__law_pick (mCons (mVar (cvL []) 1) (mCons (mLst (mCons (mC (.int 1)) (mCons (mC (.int 2)) (mCons (mC (.int 3)) (mCons (mC (.int 3)) (mCons (mC (.int 4)) (mCons (mC (.int 5)) (mCons (mC (.int 6)) (mCons (mC (.int 8)) (mCons (mC (.int 20)) (mCons (mBin (lift2 fAdd) (mC (.int 1)) (mCall [true, false] g__law_take (mCons (mVar (cvL []) 1) (mCons (mC (.int 20)) mNil)))) mNil))))))))))) mNil))))
    (mSeq (mSet 4 (mCall [true, false] g__law_pick (mCons (mVar (cvL []) 1) (mCons (mLst (mCons (mC (.int 10)) (mCons (mC (.int 100)) (mCons (mBin (lift2 fPow) (mC (.int 10)) (mC (.int 27))) (mCons (mBin (lift2 fPow) (mC (.int 10)) (mC (.int 27))) mNil))))) mNil))))
    (mIf (mNot (mTru (mCall [true, false] g__law_right (mCons (mVar (cvL []) 1) (mCons (mCall [true, false, false] g__law_asked (mCons (mVar (cvL []) 1) (mCons (mVar (cvL []) 3) (mCons (mVar (cvL []) 4) mNil)))) mNil))))) (mRet (mC (.bl false))) mNext)))
def m_law : MS := (mSeq (mSet 1 (mCallP 1 g__law_store (mCons (mVar (cvL []) 0) mNil)))
    (mSeq (mFor (mRange1 (mC (.int 5))) (sto 2) mb_law_0)
    (mSeq (mIf (mNot (mTru (mCallP 2 g__law_same (mCons (mLst (mCons (mCallP 1 g_least_name (mCons (mLst mNil) mNil)) (mCons (mCallP 1 g_least_name (mCons (mTup mNil) mNil)) (mCons (mCallP 1 g_widest_batch (mCons (mLst mNil) mNil)) (mCons (mCallP 1 g_widest_batch (mCons (mTup mNil) mNil)) mNil))))) (mCons (mLst (mCons (mUn fNeg (mC (.int 1))) (mCons (mUn fNeg (mC (.int 1))) (mCons (mC (.int 0)) (mCons (mC (.int 0)) mNil))))) mNil))))) (mRet (mC (.bl false))) mNext)
    (mSeq (mSet 5 (mBin (lift2 fMul) (mLst (mCons (mUn fNeg (mC (.int 1))) mNil)) (mCall [true, false] g__law_take (mCons (mVar (cvL []) 1) (mCons (mC (.int 20)) mNil)))))
    (mSeq (mSet 6 (mCall [true, false] g__law_take (mCons (mVar (cvL []) 1) (mCons (mBin (lift2 fAdd) (mCallB fLen (mCons (mVar (cvL []) 5) mNil)) (mC (.int 1))) mNil))))
    (mSeq (mSet 7 (mCall [true, false] g__law_upto (mCons (mVar (cvL []) 1) (mCons (mBin (lift2 fSub) (mBin (lift2 fPow) (mC (.int 10)) (mC (.int 30))) (mC (.int 1))) mNil))))
    (mSeq (mSet 8 (mBin (lift2 fAdd) (mBin (lift2 fAdd) (mSl (mVar (cvL []) 5) mNoPart (mPart (mVar (cvL []) 6))) (mLst (mCons (mVar (cvL []) 7) mNil))) (mSl (mVar (cvL []) 5) (mPart (mVar (cvL []) 6)) mNoPart)))
    (mSeq (mIf (mNot (mTru (mCallP 2 g__law_same (mCons (mLst (mCons (mCallP 1 g_least_name (mCons (mVar (cvL []) 5) mNil)) (mCons (mCallP 1 g_widest_batch (mCons (mVar (cvL []) 5) mNil)) (mCons (mCallP 1 g_least_name (mCons (mVar (cvL []) 8) mNil)) (mCons (mCallP 1 g_widest_batch (mCons (mVar (cvL []) 8) mNil)) mNil))))) (mCons (mLst (mCons (mUn fNeg (mC (.int 1))) (mCons (mC (.int 0)) (mCons (mVar (cvL []) 6) (mCons (mC (.int 0)) mNil))))) mNil))))) (mRet (mC (.bl false))) mNext)
    (mRet (mCallP 2 g__law_same (mCons (mLst (mCons (mCallP 1 g_least_name (mCons (mBin (lift2 fMul) (mLst (mCons (mC (.int 0)) mNil)) (mC (.int 20))) mNil)) (mCons (mCallP 1 g_widest_batch (mCons (mBin (lift2 fMul) (mLst (mCons (mC (.int 0)) mNil)) (mC (.int 20))) mNil)) (mCons (mCallP 1 g_widest_batch (mCons (mLst (mCons (mC (.int 0)) (mCons (mC (.int 0)) (mCons (mC (.int 1)) mNil)))) mNil)) mNil)))) (mCons (mLst (mCons (mC (.int 0)) (mCons (mC (.int 19)) (mCons (mC (.int 2)) mNil)))) mNil))))))))))))
def sb_law_0_0 : MS := (mSet 3 (mCall [true, false] g__law_pick (mCons (mVar (cvL []) 1) (mCons (mLst (mCons (mC (.int 1)) (mCons (mC (.int 2)) (mCons (mC (.int 3)) (mCons (mC (.int 3)) (mCons (mC (.int 4)) (mCons (mC (.int 5)) (mCons (mC (.int 6)) (mCons (mC (.int 8)) (mCons (mC (.int 20)) (mCons (mBin (lift2 fAdd) (mC (.int 1)) (mCall [true, false] g__law_take (mCons (mVar (cvL []) 1) (mCons (mC (.int 20)) mNil)))) mNil))))))))))) mNil))))
def sb_law_0_1 : MS := (mSet 4 (mCall [true, false] g__law_pick (mCons (mVar (cvL []) 1) (mCons (mLst (mCons (mC (.int 10)) (mCons (mC (.int 100)) (mCons (mBin (lift2 fPow) (mC (.int 10)) (mC (.int 27))) (mCons (mBin (lift2 fPow) (mC (.int 10)) (mC (.int 27))) mNil))))) mNil))))
def sb_law_0_2 : MS := (mIf (mNot (mTru (mCall [true, false] g__law_right (mCons (mVar (cvL []) 1) (mCons (mCall [true, false, false] g__law_asked (mCons (mVar (cvL []) 1) (mCons (mVar (cvL []) 3) (mCons (mVar (cvL []) 4) mNil)))) mNil))))) (mRet (mC (.bl false))) mNext)
theorem mb_law_0_eq : mb_law_0 = (mSeq (sb_law_0_0) (mSeq (sb_law_0_1) (sb_law_0_2))) := rfl
def st_law_0 : MS := (mSet 1 (mCallP 1 g__law_store (mCons (mVar (cvL []) 0) mNil)))
def st_law_1 : MS := (mFor (mRange1 (mC (.int 5))) (sto 2) mb_law_0)
def st_law_2 : MS := (mIf (mNot (mTru (mCallP 2 g__law_same (mCons (mLst (mCons (mCallP 1 g_least_name (mCons (mLst mNil) mNil)) (mCons (mCallP 1 g_least_name (mCons (mTup mNil) mNil)) (mCons (mCallP 1 g_widest_batch (mCons (mLst mNil) mNil)) (mCons (mCallP 1 g_widest_batch (mCons (mTup mNil) mNil)) mNil))))) (mCons (mLst (mCons (mUn fNeg (mC (.int 1))) (mCons (mUn fNeg (mC (.int 1))) (mCons (mC (.int 0)) (mCons (mC (.int 0)) mNil))))) mNil))))) (mRet (mC (.bl false))) mNext)
def st_law_3 : MS := (mSet 5 (mBin (lift2 fMul) (mLst (mCons (mUn fNeg (mC (.int 1))) mNil)) (mCall [true, false] g__law_take (mCons (mVar (cvL []) 1) (mCons (mC (.int 20)) mNil)))))
def st_law_4 : MS := (mSet 6 (mCall [true, false] g__law_take (mCons (mVar (cvL []) 1) (mCons (mBin (lift2 fAdd) (mCallB fLen (mCons (mVar (cvL []) 5) mNil)) (mC (.int 1))) mNil))))
def st_law_5 : MS := (mSet 7 (mCall [true, false] g__law_upto (mCons (mVar (cvL []) 1) (mCons (mBin (lift2 fSub) (mBin (lift2 fPow) (mC (.int 10)) (mC (.int 30))) (mC (.int 1))) mNil))))
def st_law_6 : MS := (mSet 8 (mBin (lift2 fAdd) (mBin (lift2 fAdd) (mSl (mVar (cvL []) 5) mNoPart (mPart (mVar (cvL []) 6))) (mLst (mCons (mVar (cvL []) 7) mNil))) (mSl (mVar (cvL []) 5) (mPart (mVar (cvL []) 6)) mNoPart)))
def st_law_7 : MS := (mIf (mNot (mTru (mCallP 2 g__law_same (mCons (mLst (mCons (mCallP 1 g_least_name (mCons (mVar (cvL []) 5) mNil)) (mCons (mCallP 1 g_widest_batch (mCons (mVar (cvL []) 5) mNil)) (mCons (mCallP 1 g_least_name (mCons (mVar (cvL []) 8) mNil)) (mCons (mCallP 1 g_widest_batch (mCons (mVar (cvL []) 8) mNil)) mNil))))) (mCons (mLst (mCons (mUn fNeg (mC (.int 1))) (mCons (mC (.int 0)) (mCons (mVar (cvL []) 6) (mCons (mC (.int 0)) mNil))))) mNil))))) (mRet (mC (.bl false))) mNext)
def st_law_8 : MS := (mRet (mCallP 2 g__law_same (mCons (mLst (mCons (mCallP 1 g_least_name (mCons (mBin (lift2 fMul) (mLst (mCons (mC (.int 0)) mNil)) (mC (.int 20))) mNil)) (mCons (mCallP 1 g_widest_batch (mCons (mBin (lift2 fMul) (mLst (mCons (mC (.int 0)) mNil)) (mC (.int 20))) mNil)) (mCons (mCallP 1 g_widest_batch (mCons (mLst (mCons (mC (.int 0)) (mCons (mC (.int 0)) (mCons (mC (.int 1)) mNil)))) mNil)) mNil)))) (mCons (mLst (mCons (mC (.int 0)) (mCons (mC (.int 19)) (mCons (mC (.int 2)) mNil)))) mNil))))
theorem m_law_eq : m_law = (mSeq (st_law_0) (mSeq (st_law_1) (mSeq (st_law_2) (mSeq (st_law_3) (mSeq (st_law_4) (mSeq (st_law_5) (mSeq (st_law_6) (mSeq (st_law_7) (st_law_8))))))))) := rfl
def g_law : Fn := fun as => fin0 [false] (m_law (as ++ List.replicate 8 .un))

end
section
local macro_rules | `(tactic| walk_at "dl") => `(tactic| simp (maxSteps := 400000) only [*, DL.ixN_lit, DL.atI_lit, DL.cast_lit, DL.size_le, DL.size_lt, DL.cvL_nil, DL.cvL_cons, DL.rgOk_of, DL.mulOk_big,  DL.powOk_of, List.length_map,  Nat.reduceBEq, Nat.reduceAdd, DL.mSeq, DL.mNext, DL.mPass, DL.mBrk, DL.mCnt, DL.mTo, DL.mE, DL.mBin, DL.mUn, DL.mTest, DL.mTru, DL.truD, DL.mNot, DL.mAnd, DL.mOr, DL.mAndV, DL.mOrV, DL.mNotV, DL.mIfE, DL.mIf, DL.mExpr, DL.mRet, DL.mRetN, DL.M.bnd, DL.mVar, DL.mC, DL.ret, DL.mCallB, DL.mCons, DL.mNil, DL.liftN, DL.lift1, DL.lift2, DL.cons, DL.con, DL.esc, DL.escs, DL.bres, DL.BR.res, DL.fInt, DL.fAbs, DL.fMax, DL.fMin, DL.fLen, DL.fList, DL.fTuple, DL.fMul, DL.fAdd, DL.fMod, DL.fDiv, DL.fSub, DL.fPow, DL.fNeg, DL.fLt, DL.fLe, DL.fGt, DL.fGe, DL.fCmpI, DL.fEq, DL.fNe, DL.eqD, DL.fIs, DL.isNon, DL.fIn, DL.fIx, DL.fSl, DL.iff2, DL.yes2, DL.modOk_r, DL.divOk_r, DL.mulOk_r, DL.mulOk_l, DL.sto, DL.mTup, DL.mLst, DL.mSl, DL.mPart, DL.mNoPart, DL.mIsi, DL.tyD, DL.isT, DL.mSetAt, DL.atOwn, DL.putAt, DL.mMeth, DL.kAppend, DL.kPop, DL.kPopAt, DL.mListRg1, DL.mListRg2, DL.fSortedIP, DL.mEnum, DL.intsOf_map, DL.pairsOf_map, DL.fSum, DL.mLc, DL.mLcV, DL.wipeD, DL.mItems, DL.itD, DL.mRange1, DL.mRange2, DL.mFor, DL.gTupD, DL.gsCons, DL.gsNil, DL.mCallP, DL.mCall, DL.mCallT, DL.prep, DL.prep1, DL.give, DL.nolist, DL.nolists, DL.fin0, DL.fin, DL.outsOf, DL.mAug, DL.fAddI, DL.fSubI, DL.mAugAt, DL.augAt1, DL.augAt2, List.length_cons, List.length_nil, List.cons_append, List.nil_append, List.replicate, List.getElem?_cons_zero, List.getElem?_cons_succ, List.set_cons_zero, List.set_cons_succ, List.map_cons, List.map_nil, List.any_cons, List.any_nil, Option.map_some, Option.map_none, Bool.or_false, Bool.or_true, Bool.false_or, Bool.true_or, Bool.and_true, Bool.true_and, Bool.false_and, Bool.and_false, Bool.not_true, Bool.not_false, if_true, if_false, ite_true, ite_false, reduceIte, Bool.false_eq_true, decide_true, decide_false, decide_eq_true_eq, Bool.true_eq_false, ne_eq, not_true_eq_false, not_false_eq_true, reduceCtorEq, Int.reduceNeg, Int.reduceLT, Int.reduceLE, Int.reduceAdd, Int.reduceSub, Int.reduceMul, Int.reducePow, Int.reduceToNat, Int.reduceEq, Nat.reduceAdd, Nat.reduceSub, Nat.reduceLT, Nat.reduceLeDiff, Nat.reduceEqDiff, Nat.reduceMul, Int.toNat_natCast, bne_iff_ne, Bool.not_eq_true])

/-! the draws -/
structure Sto where
  cells : List Int
  pos : Int
  big : Int
  left : Int
  cnt : Int
  dig : Int
  seed : Int
def Sto.d (s : Sto) : D := .lst [.lst (s.cells.map .int), .int s.pos, .int s.big, .int s.left, .int s.cnt, .int s.dig, .int s.seed]
def Sto.ok (s : Sto) : Prop := 0 ≤ s.pos
def mix1 (a b : Int) : Int := (a * 48271 + b * 69621 + 9973) % 2147483647
def mix2 (s b : Int) : Int := (s * s + b * 40692 + 7) % 2147483629
def mix3 (q : Int) : Int := (q / 46337 + q % 46337 * 46349) * 16807 % 2147483587
def mix (a b : Int) : Int := mix3 (mix2 (mix1 a b) b)
theorem mix_eq (a b : Int) : g__law_mix [.fz (.int a), .fz (.int b)] = some (.ok (.fz (.int (mix a b))) [.un, .un]) := by
  have h1 : mulOk (mix1 a b) (mix1 a b) = true := mulOk_r (by unfold mix1; omega) (by unfold mix1; omega)
  unfold mix1 at h1
  unfold g__law_mix m__law_mix
  walk_at "dl"
  rfl
theorem next_eq (s : Sto) (hs : s.ok) : ∃ s' : Sto, s'.ok ∧ g__law_next [.own s.d] = some (.ok (.fz .non) [.own s'.d]) := by
  obtain ⟨cells, pos, big, left, cnt, dig, seed⟩ := s
  have hp : 0 ≤ pos := hs
  by_cases h1 : pos < (cells.length : Int)
  · have h2 : atI (cells.map D.int) pos = some (.int (cells.getD pos.toNat 0)) := by
      rw [atI_of hp, List.getElem?_map]
      have : pos.toNat < cells.length := by omega
      simp [this]
    have h6 := mix_eq (seed + pos) (cells.getD pos.toNat 0)
    by_cases h5 : (1000000000000000000 : Int) ≤ cells.getD pos.toNat 0
    · refine ⟨⟨cells, pos + 1, cells.getD pos.toNat 0, 0, cnt, mix (seed + pos) (cells.getD pos.toNat 0), seed⟩, by unfold Sto.ok; show 0 ≤ pos + 1; omega, ?_⟩
      unfold g__law_next m__law_next Sto.d
      walk_at "dl"
    · refine ⟨⟨cells, pos + 1, 0, 3, cnt, mix (seed + pos) (cells.getD pos.toNat 0), seed⟩, by unfold Sto.ok; show 0 ≤ pos + 1; omega, ?_⟩
      unfold g__law_next m__law_next Sto.d
      walk_at "dl"
  · refine ⟨⟨cells, pos, 0, 1000000, cnt, seed, seed⟩, hs, ?_⟩
    unfold g__law_next m__law_next Sto.d
    walk_at "dl"
theorem take_loop (d : D) (cnt many : Int) (hd : ∀ n, n = 4 → True) : ∀ (ks : List Int) (v r : Int) (kk dg : SV), (∃ a b c e f g, d = .lst [a, b, c, e, .int cnt, f, g]) → ∃ v' r' kk', mLoop (sto 5) mb__law_take_0 (ks.map .int) [.own d, .fz (.int many), dg, .fz (.int v), .fz (.int r), kk] = some (.nx [.own d, .fz (.int many), dg, .fz (.int v'), .fz (.int r'), kk'])
  | [], v, r, kk, dg, _ => ⟨v, r, kk, rfl⟩
  | k :: ks, v, r, kk, dg, hd => by
    obtain ⟨a, b, c, e, f, g, rfl⟩ := id hd
    by_cases h : r < many * 1000
    · have h6 := mix_eq v (cnt * 12 + k)
      have st : mb__law_take_0 [.own (.lst [a, b, c, e, .int cnt, f, g]), .fz (.int many), dg, .fz (.int v), .fz (.int r), .fz (.int k)] = some (.nx [.own (.lst [a, b, c, e, .int cnt, f, g]), .fz (.int many), dg, .fz (.int (v * 2147483587 + mix v (cnt * 12 + k))), .fz (.int (r * 2147483587)), .fz (.int k)]) := by
        unfold mb__law_take_0
        walk_at "dl"
      obtain ⟨v', r', kk', e2⟩ := take_loop _ cnt many (fun _ _ => trivial) ks (v * 2147483587 + mix v (cnt * 12 + k)) (r * 2147483587) (.fz (.int k)) dg hd
      refine ⟨v', r', kk', ?_⟩
      rw [List.map_cons, mLoop_nx (ρ1 := [.own (.lst [a, b, c, e, .int cnt, f, g]), .fz (.int many), dg, .fz (.int v), .fz (.int r), .fz (.int k)]) rfl st]
      exact e2
    · have st : mb__law_take_0 [.own (.lst [a, b, c, e, .int cnt, f, g]), .fz (.int many), dg, .fz (.int v), .fz (.int r), .fz (.int k)] = some (.nx [.own (.lst [a, b, c, e, .int cnt, f, g]), .fz (.int many), dg, .fz (.int v), .fz (.int r), .fz (.int k)]) := by
        unfold mb__law_take_0
        walk_at "dl"
      obtain ⟨v', r', kk', e2⟩ := take_loop _ cnt many (fun _ _ => trivial) ks v r (.fz (.int k)) dg hd
      refine ⟨v', r', kk', ?_⟩
      rw [List.map_cons, mLoop_nx (ρ1 := [.own (.lst [a, b, c, e, .int cnt, f, g]), .fz (.int many), dg, .fz (.int v), .fz (.int r), .fz (.int k)]) rfl st]
      exact e2
def manyOk (m : Int) : Prop := m.natAbs.log2 < 9000
theorem divOk_many {i m : Int} (h : 0 < m) (h2 : manyOk m) : divOk i m = true := by
  unfold divOk
  rw [decide_eq_true h, nlt_iff.mpr (show m.natAbs.log2 < 9000 from h2)]
  simp
theorem take_eq (s : Sto) (hs : s.ok) (m : Int) (hm : manyOk m) : ∃ (r : Int) (s' : Sto), s'.ok ∧ g__law_take [.own s.d, .fz (.int m)] = some (.ok (.fz (.int r)) [.own s'.d, .un]) ∧ 0 ≤ r ∧ (2 ≤ m → r < m) ∧ (m < 2 → r = 0) := by
  by_cases h0 : m < 2
  · refine ⟨0, s, hs, ?_, by omega, by omega, fun _ => rfl⟩
    unfold g__law_take m__law_take Sto.d
    walk_at "dl"
  · have hm0 : 0 < m := by omega
    have hd : ∀ i, divOk i m = true := fun i => divOk_many hm0 hm
    have ha : st__law_take_0 [.own s.d, .fz (.int m), .un, .un, .un, .un] = some (.nx [.own s.d, .fz (.int m), .un, .un, .un, .un]) := by
      unfold st__law_take_0 Sto.d
      walk_at "dl"
    have hb : ∃ s1 : Sto, s1.ok ∧ st__law_take_1 [.own s.d, .fz (.int m), .un, .un, .un, .un] = some (.nx [.own s1.d, .fz (.int m), .un, .un, .un, .un]) := by
      obtain ⟨s1, h1, e1⟩ := next_eq s hs
      unfold Sto.d at e1
      by_cases hb2 : s.big < 2
      · by_cases hl : s.left < 1
        · refine ⟨s1, h1, ?_⟩
          unfold st__law_take_1 Sto.d
          walk_at "dl"
        · refine ⟨s, hs, ?_⟩
          unfold st__law_take_1 Sto.d
          walk_at "dl"
      · refine ⟨s, hs, ?_⟩
        unfold st__law_take_1 Sto.d
        walk_at "dl"
    obtain ⟨s1, h1, hb⟩ := hb
    by_cases hc : 1 < s1.big
    · refine ⟨s1.big % m, { s1 with big := s1.big / m }, h1, ?_, Int.emod_nonneg _ (by omega), fun _ => Int.emod_lt_of_pos _ hm0, fun h => absurd h h0⟩
      show fin0 _ (m__law_take [.own s.d, .fz (.int m), .un, .un, .un, .un]) = _
      rw [m__law_take_eq, mSeq_nx ha, mSeq_nx hb]
      unfold st__law_take_2 Sto.d
      walk_at "dl"
    · have h6 := mix_eq s1.dig (s1.cnt + 1)
      have h7 := mix_eq (mix s1.dig (s1.cnt + 1)) (s1.cnt + 1 + 3)
      have hl := fun v r kk dg => take_loop ({ s1 with left := s1.left - 1, cnt := s1.cnt + 1 } : Sto).d (s1.cnt + 1) m (fun _ _ => trivial) (rgI 0 12) v r kk dg ⟨_, _, _, _, _, _, rfl⟩
      obtain ⟨v', r', kk', e8⟩ := hl (mix (mix s1.dig (s1.cnt + 1)) (s1.cnt + 1 + 3)) 2147483587 .un .un
      rw [← rgD_map] at e8
      unfold Sto.d at e8
      have e9 : (12 : Int).toNat = 12 := rfl
      refine ⟨v' % m, { s1 with left := s1.left - 1, cnt := s1.cnt + 1 }, h1, ?_, Int.emod_nonneg _ (by omega), fun _ => Int.emod_lt_of_pos _ hm0, fun h => absurd h h0⟩
      show fin0 _ (m__law_take [.own s.d, .fz (.int m), .un, .un, .un, .un]) = _
      rw [m__law_take_eq, mSeq_nx ha, mSeq_nx hb]
      unfold st__law_take_2 st__law_take_3 st__law_take_4 st__law_take_5 st__law_take_6 st__law_take_7 st__law_take_8 Sto.d
      walk_at "dl"
theorem manyOk_small {m : Int} (h0 : 0 ≤ m) (h : m < 2 ^ 200) : manyOk m := by
  unfold manyOk
  by_cases hz : m.natAbs = 0
  · rw [hz]; decide
  · have h1 : m.natAbs < 2 ^ 200 := by omega
    have := (Nat.log2_lt hz).mpr h1
    omega
theorem rare_eq (s : Sto) (hs : s.ok) (m : Int) (hm : manyOk m) : ∃ (b : Bool) (s' : Sto), s'.ok ∧ g__law_rare [.own s.d, .fz (.int m)] = some (.ok (.fz (.bl b)) [.own s'.d, .un]) := by
  obtain ⟨r, s1, h1, e1, _⟩ := take_eq s hs m hm
  refine ⟨decide (r = 0), s1, h1, ?_⟩
  unfold Sto.d at e1
  unfold g__law_rare m__law_rare Sto.d
  walk_at "dl"
theorem pick_eq (s : Sto) (hs : s.ok) (ds : List D) (h0 : 0 < ds.length) (hl : ds.length < 1000000) : ∃ (n : Nat) (d : D) (s' : Sto), s'.ok ∧ ds[n]? = some d ∧ g__law_pick [.own s.d, .fz (.lst ds)] = some (.ok (.fz d) [.own s'.d, .un]) := by
  obtain ⟨r, s1, h1, e1, h2, h3, h4⟩ := take_eq s hs (ds.length : Int) (manyOk_small (by omega) (by omega))
  have hr : r.toNat < ds.length := by
    by_cases h : (ds.length : Int) < 2
    · rw [h4 h]; exact h0
    · have := h3 (by omega); omega
  have ha : atI ds r = some (ds[r.toNat]'hr) := by rw [atI_of h2]; simp [hr]
  refine ⟨r.toNat, ds[r.toNat]'hr, s1, h1, by simp [hr], ?_⟩
  unfold Sto.d at e1
  unfold g__law_pick m__law_pick Sto.d
  walk_at "dl"
theorem upto_loop : ∀ (ks : List Int) (d : D) (a b : SV) (v : Int) (kk : SV), 0 ≤ v → ∃ v' kk', 0 ≤ v' ∧ v' ≤ v ∧ mLoop (sto 4) mb__law_upto_0 (ks.map .int) [.own d, a, b, .fz (.int v), kk] = some (.nx [.own d, a, b, .fz (.int v'), kk'])
  | [], d, a, b, v, kk, h => ⟨v, kk, h, Int.le_refl _, rfl⟩
  | k :: ks, d, a, b, v, kk, h => by
    have st : mb__law_upto_0 [.own d, a, b, .fz (.int v), .fz (.int k)] = some (.nx [.own d, a, b, .fz (.int (v / 10)), .fz (.int k)]) := by
      unfold mb__law_upto_0
      walk_at "dl"
    obtain ⟨v', kk', h1, h2, e⟩ := upto_loop ks d a b (v / 10) (.fz (.int k)) (by omega)
    refine ⟨v', kk', h1, by omega, ?_⟩
    rw [List.map_cons, mLoop_nx (ρ1 := [.own d, a, b, .fz (.int v), .fz (.int k)]) rfl st]
    exact e
theorem upto_eq (s : Sto) (hs : s.ok) (top : Int) (ht : top < 2 ^ 190) (h0 : 0 ≤ top) : ∃ (r : Int) (s' : Sto), s'.ok ∧ 0 ≤ r ∧ r ≤ top ∧ g__law_upto [.own s.d, .fz (.int top)] = some (.ok (.fz (.int r)) [.own s'.d, .un]) := by
  obtain ⟨way, s1, h1, e1, w0, w1, _⟩ := take_eq s hs 9 (manyOk_small (by decide) (by decide))
  have w2 := w1 (by decide)
  have ha : st__law_upto_0 [.own s.d, .fz (.int top), .un, .un, .un] = some (.nx [.own s1.d, .fz (.int top), .fz (.int way), .un, .un]) := by
    unfold Sto.d at e1
    unfold st__law_upto_0 Sto.d
    walk_at "dl"
  have go : g__law_upto [.own s.d, .fz (.int top)] = fin0 [true, false] (m__law_upto [.own s.d, .fz (.int top), .un, .un, .un]) := rfl
  by_cases c0 : way = 0
  · refine ⟨0, s1, h1, Int.le_refl _, h0, ?_⟩
    rw [go, m__law_upto_eq, mSeq_nx ha]
    unfold st__law_upto_1 Sto.d
    subst c0
    walk_at "dl"
  by_cases c1 : way < 3
  · refine ⟨if top + 1 - way > 0 then top + 1 - way else 0, s1, h1, by split <;> omega, by split <;> omega, ?_⟩
    rw [go, m__law_upto_eq, mSeq_nx ha]
    unfold st__law_upto_1 st__law_upto_2 Sto.d
    walk_at "dl"
  by_cases c2 : way < 6
  · obtain ⟨r, s2, h2, e2, r0, r1, r2⟩ := take_eq s1 h1 4 (manyOk_small (by decide) (by decide))
    refine ⟨if r < top then r else top, s2, h2, by split <;> omega, by split <;> omega, ?_⟩
    rw [go, m__law_upto_eq, mSeq_nx ha]
    unfold Sto.d at e2
    unfold st__law_upto_1 st__law_upto_2 st__law_upto_3 Sto.d
    walk_at "dl"
  by_cases c3 : way = 6
  · obtain ⟨r, s2, h2, e2, r0, r1, r2⟩ := take_eq s1 h1 100 (manyOk_small (by decide) (by decide))
    refine ⟨if r < top then r else top, s2, h2, by split <;> omega, by split <;> omega, ?_⟩
    rw [go, m__law_upto_eq, mSeq_nx ha]
    unfold Sto.d at e2
    unfold st__law_upto_1 st__law_upto_2 st__law_upto_3 st__law_upto_4 Sto.d
    subst c3
    walk_at "dl"
  obtain ⟨v, s2, h2, e2, r0, r1, r2⟩ := take_eq s1 h1 (top + 1) (manyOk_small (by omega) (by omega))
  have rv : v ≤ top := by
    by_cases h : top + 1 < 2
    · rw [r2 h]; exact h0
    · have := r1 (by omega); omega
  by_cases c4 : way = 7
  · obtain ⟨n, s3, h3, e3, n0, n1, n2⟩ := take_eq s2 h2 30 (manyOk_small (by decide) (by decide))
    have n3 := n1 (by decide)
    obtain ⟨v', kk', v0, v1, e4⟩ := upto_loop (rgI 0 n.toNat) s3.d (.fz (.int top)) (.fz (.int way)) v .un r0
    rw [← rgD_map] at e4
    refine ⟨v', s3, h3, v0, by omega, ?_⟩
    have hg : rgOk n = true := rgOk_of (by omega) (by omega)
    rw [go, m__law_upto_eq, mSeq_nx ha]
    unfold Sto.d at e2 e3 e4
    unfold st__law_upto_1 st__law_upto_2 st__law_upto_3 st__law_upto_4 st__law_upto_5 st__law_upto_6 st__law_upto_7 Sto.d
    subst c4
    walk_at "dl"
  · refine ⟨v, s2, h2, r0, rv, ?_⟩
    rw [go, m__law_upto_eq, mSeq_nx ha]
    unfold Sto.d at e2
    unfold st__law_upto_1 st__law_upto_2 st__law_upto_3 st__law_upto_4 st__law_upto_5 st__law_upto_6 st__law_upto_7 Sto.d
    walk_at "dl"
theorem store_loop (w : Int) (hw : 0 < w) : ∀ (ks cs : List Int) (dg : Int) (a e f : SV), cs.length + ks.length ≤ 1000 → ∃ (cs' : List Int) (dg' : Int) (e' f' : SV), mLoop (sto 4) mb__law_store_0 (ks.map .int) [a, .fz (.int w), .own (.lst (cs.map .int)), .fz (.int dg), e, f] = some (.nx [a, .fz (.int w), .own (.lst (cs'.map .int)), .fz (.int dg'), e', f'])
  | [], cs, dg, a, e, f, h => ⟨cs, dg, e, f, rfl⟩
  | k :: ks, cs, dg, a, e, f, h => by
    have hm : ∀ i, modOk i w = true := fun i => modOk_r hw
    have hz : cs.length < sizeLine := by rw [sizeLine_eq]; simp at h; omega
    have key : ∃ dg' : Int, mb__law_store_0 [a, .fz (.int w), .own (.lst (cs.map .int)), .fz (.int dg), .fz (.int k), f] = some (.nx [a, .fz (.int w), .own (.lst ((cs ++ [(if k < 0 then -k else k) % w]).map .int)), .fz (.int dg'), .fz (.int k), .fz (.int ((if k < 0 then -k else k) % w))]) := by
      by_cases hk : k < 0
      · have h6 := mix_eq (dg + 5) (-k % w)
        refine ⟨mix (dg + 5) (-k % w), ?_⟩
        unfold mb__law_store_0
        simp only [if_pos hk, List.map_append, List.map_cons, List.map_nil]
        walk_at "dl"
      · have h6 := mix_eq dg (k % w)
        refine ⟨mix dg (k % w), ?_⟩
        unfold mb__law_store_0
        simp only [if_neg hk, List.map_append, List.map_cons, List.map_nil]
        walk_at "dl"
    obtain ⟨dg', st⟩ := key
    obtain ⟨cs', dg2, e', f', e2⟩ := store_loop w hw ks (cs ++ [(if k < 0 then -k else k) % w]) dg' a (.fz (.int k)) (.fz (.int ((if k < 0 then -k else k) % w))) (by simp at h ⊢; omega)
    refine ⟨cs', dg2, e', f', ?_⟩
    rw [List.map_cons, mLoop_nx (ρ1 := [a, .fz (.int w), .own (.lst (cs.map .int)), .fz (.int dg), .fz (.int k), f]) rfl st]
    exact e2
theorem store_eq (ns : List Int) (hl : ns.length ≤ 63) (d : D) (hd : d = .lst (ns.map .int) ∨ d = .seq (ns.map .int)) : ∃ s : Sto, s.ok ∧ g__law_store [.fz d] = some (.ok (.own s.d) [.un]) := by
  have hc : cutD (ns.map D.int) none (some 63) = ns.map .int := by
    rw [show (63 : Int) = ((63 : Nat) : Int) from rfl, cutD_take, List.take_of_length_le (by simpa using hl)]
  have hz : (0 : Nat) ≤ sizeLine := Nat.zero_le _
  have hW : ∃ W : Int, 0 < W ∧ ∀ X : MS, mSeq st__law_store_0 (mSeq st__law_store_1 (mSeq st__law_store_2 (mSeq st__law_store_3 X))) [.fz d, .un, .un, .un, .un, .un] = X [.fz d, .fz (.int W), .own (.lst []), .fz (.int 17), .un, .un] := by
    refine ⟨10 ^ 60 * 10 ^ 60 * 10 ^ 60 * 10 ^ 60 * 10 ^ 60, by decide, fun X => ?_⟩
    unfold st__law_store_0 st__law_store_1 st__law_store_2 st__law_store_3
    walk_at "dl"
  obtain ⟨W, hW0, hW⟩ := hW
  obtain ⟨cs', dg', e', f', e1⟩ := store_loop W hW0 ns [] 17 (.fz d) .un .un (by simp; omega)
  rw [List.map_nil] at e1
  have h7 : (7 : Nat) ≤ sizeLine := by rw [sizeLine_eq]; decide
  refine ⟨⟨cs', 0, 0, 0, 0, 0, dg'⟩, Int.le_refl _, ?_⟩
  show fin0 [false] (m__law_store [.fz d, .un, .un, .un, .un, .un]) = _
  rw [m__law_store_eq, hW]
  unfold st__law_store_4 st__law_store_5 Sto.d
  rcases hd with rfl | rfl
  · walk_at "dl"
  · walk_at "dl"

/-! the comparison -/
def kindD : D → Int
  | .non => 0 | .bl _ => 1 | .int _ => 2 | .str _ => 3 | .lst _ => 4 | .seq _ => 4 | .tup _ => 5 | .obj _ _ _ => 6
mutual
def pl : D → Bool
  | .lst ds => pls ds
  | .seq ds => pls ds
  | .tup ds => pls ds
  | .obj _ _ _ => false
  | _ => true
def pls : List D → Bool
  | [] => true
  | d :: ds => pl d && pls ds
end
mutual
def nod : D → Nat
  | .lst ds => 1 + nods ds
  | .seq ds => 1 + nods ds
  | .tup ds => 1 + nods ds
  | _ => 1
def nods : List D → Nat
  | [] => 0
  | d :: ds => nod d + nods ds
end
theorem nod_pos (d : D) : 0 < nod d := by cases d <;> simp only [nod] <;> omega
theorem nods_len : ∀ ds : List D, ds.length ≤ nods ds
  | [] => Nat.le_refl _
  | d :: ds => by
    have := nods_len ds; have := nod_pos d
    simp only [nods, List.length_cons]; omega
theorem nods_app : ∀ a b : List D, nods (a ++ b) = nods a + nods b
  | [], b => by simp [nods]
  | d :: a, b => by simp only [List.cons_append, nods, nods_app a b]; omega
theorem pls_app : ∀ a b : List D, pls (a ++ b) = (pls a && pls b)
  | [], b => by simp [pls]
  | d :: a, b => by simp only [List.cons_append, pls, pls_app a b, Bool.and_assoc]
theorem kind_eq (d : D) (h : pl d = true) : g__law_kind [.fz d] = some (.ok (.fz (.int (kindD d))) [.un]) := by
  cases d with
  | obj _ _ _ => simp [pl] at h
  | non => unfold g__law_kind m__law_kind; walk_at "dl"; rfl
  | bl b => unfold g__law_kind m__law_kind; walk_at "dl"; rfl
  | int b => unfold g__law_kind m__law_kind; walk_at "dl"; rfl
  | str b => unfold g__law_kind m__law_kind; walk_at "dl"; rfl
  | lst b => unfold g__law_kind m__law_kind; walk_at "dl"; rfl
  | seq b => unfold g__law_kind m__law_kind; walk_at "dl"; rfl
  | tup b => unfold g__law_kind m__law_kind; walk_at "dl"; rfl
def kid : D → List D
  | .lst ds => ds
  | .seq ds => ds
  | .tup ds => ds
  | _ => []
def two (d : D) : D := .tup [d, d]
theorem same_in {d : D} (hk : 3 < kindD d) (hp : pl d = true) (a b k kd : SV) : ∀ (n lo : Nat) (acc : List D) (at_ : SV), lo + n = (kid d).length → acc.length + n ≤ sizeLine →
    ∃ at', mLoop (sto 6) mb__law_same_0 (rgD lo n) [a, b, .own (.lst acc), k, .fz (two d), kd, at_] = some (.nx [a, b, .own (.lst (acc ++ ((kid d).drop lo).map two)), k, .fz (two d), kd, at'])
  | 0, lo, acc, at_, h, _ => by
    refine ⟨at_, ?_⟩
    rw [List.drop_of_length_le (by omega)]
    simp [rgD, mLoop]
  | n + 1, lo, acc, at_, h, hz => by
    have hl : lo < (kid d).length := by omega
    have e1 : atI (kid d) (lo : Int) = some ((kid d)[lo]) := by rw [atI_of (by omega)]; simp [hl]
    have hz' : acc.length < sizeLine := by omega
    have st : mb__law_same_0 [a, b, .own (.lst acc), k, .fz (two d), kd, .fz (.int lo)] = some (.nx [a, b, .own (.lst (acc ++ [two ((kid d)[lo])])), k, .fz (two d), kd, .fz (.int lo)]) := by
      unfold mb__law_same_0
      unfold two
      cases d with
      | lst ds => simp only [kid] at e1; walk_at "dl"; rfl
      | seq ds => simp only [kid] at e1; walk_at "dl"; rfl
      | tup ds => simp only [kid] at e1; walk_at "dl"; rfl
      | obj _ _ _ => simp [pl] at hp
      | _ => simp [kindD] at hk
    obtain ⟨at', ih⟩ := same_in hk hp a b k kd n (lo + 1) (acc ++ [two ((kid d)[lo])]) (.fz (.int lo)) (by omega) (by simp; omega)
    refine ⟨at', ?_⟩
    have er : rgD (lo : Int) (n + 1) = .int lo :: rgD ((lo + 1 : Nat) : Int) n := by
      rw [rgD_map, rgD_map, rgI_succ, List.map_cons]; rfl
    rw [er, mLoop_nx (ρ1 := [a, b, .own (.lst acc), k, .fz (two d), kd, .fz (.int lo)]) rfl st, ih]
    rw [List.drop_eq_getElem_cons hl, List.map_cons, List.append_assoc]
    rfl
theorem same_step (a b : SV) (j : Int) (qs : List D) (d : D) (p kd at_ : SV) (hp2 : pls qs = true ∧ pl d = true) (hz : nods qs + nod d ≤ 100000) : ∃ kd2 at2, mb__law_same_1 [a, b, .own (.lst ((qs ++ [d]).map two)), .fz (.int j), p, kd, at_] = some (.nx [a, b, .own (.lst ((qs ++ kid d).map two)), .fz (.int j), .fz (two d), kd2, at2]) := by
  have hkd := kind_eq d hp2.2
  have hlen : ¬ (((qs.length + 1 : Nat) : Int) = 0) := by omega
  have e0 : ((qs ++ [d]).map two).dropLast = qs.map two := by simp
  have e2 : ((qs ++ [d]).map two)[((qs ++ [d]).map two).length - 1]? = some (two d) := by simp
  have e3 : ((qs ++ [d]).map two).length = qs.length + 1 := by simp
  rw [e3] at e2
  have hq0 : qs.length ≤ nods qs := nods_len qs
  have hnl : nolist (.int (kindD d)) = true := rfl
  by_cases h3 : 3 < kindD d
  · have hk0 : (kid d).length < nod d := by
      cases d with
      | lst ds => simp only [kid, nod]; have := nods_len ds; omega
      | seq ds => simp only [kid, nod]; have := nods_len ds; omega
      | tup ds => simp only [kid, nod]; have := nods_len ds; omega
      | obj _ _ _ => simp [pl] at hp2
      | _ => simp [kindD] at h3
    obtain ⟨at', e1⟩ := same_in h3 hp2.2 a b (.fz (.int j)) (.fz (.int (kindD d))) (kid d).length 0 (qs.map two) at_ (by omega) (by simp; rw [sizeLine_eq]; omega)
    have hr : rgOk ((kid d).length : Int) = true := rgOk_of (by omega) (by omega)
    refine ⟨.fz (.int (kindD d)), at', ?_⟩
    unfold mb__law_same_1
    have h6 : ¬ (kindD d = 6) := by
      cases d with
      | obj _ _ _ => simp [pl] at hp2
      | _ => simp [kindD]
    rw [List.drop_zero, ← List.map_append] at e1
    have e1' : mLoop (sto 6) mb__law_same_0 (rgD 0 (kid d).length) [a, b, .own (.lst (qs.map two)), .fz (.int j), .fz (two d), .fz (.int (kindD d)), at_] = some (.nx [a, b, .own (.lst ((qs ++ kid d).map two)), .fz (.int j), .fz (two d), .fz (.int (kindD d)), at']) := e1
    clear e1
    generalize (qs ++ kid d).map two = out at e1' ⊢
    generalize (qs ++ [d]).map two = inn at e0 e2 e3 ⊢
    generalize qs.map two = mid at e0 e1' ⊢
    unfold two at *
    cases d with
    | lst ds => simp only [kid, kindD] at *; walk_at "dl"
    | seq ds => simp only [kid, kindD] at *; walk_at "dl"
    | tup ds => simp only [kid, kindD] at *; walk_at "dl"
    | obj _ _ _ => simp [pl] at hp2
    | _ => simp [kindD] at h3
  · refine ⟨.fz (.int (kindD d)), at_, ?_⟩
    unfold mb__law_same_1
    generalize hin : (qs ++ [d]).map two = inn at e0 e2 e3 ⊢
    generalize hmid : qs.map two = mid at e0 ⊢
    have e4 : (qs ++ kid d).map two = mid := by
      cases d with
      | lst ds => simp [kindD] at h3
      | seq ds => simp [kindD] at h3
      | tup ds => simp [kindD] at h3
      | _ => simp [kid, hmid]
    rw [e4]
    unfold two at *
    cases d with
    | non => simp only [kid, kindD] at *; walk_at "dl"
    | bl _ => simp only [kid, kindD] at *; walk_at "dl"
    | int _ => simp only [kid, kindD] at *; walk_at "dl"
    | str _ => simp only [kid, kindD] at *; walk_at "dl"
    | obj _ _ _ => simp [pl] at hp2
    | _ => simp [kindD] at h3
theorem same_loop (a b : SV) (ks : List Int) : ∀ (ps : List D) (k p kd at_ : SV), pls ps = true → nods ps < ks.length → nods ps ≤ 100000 →
    ∃ k' p' kd' at', mLoop (sto 3) mb__law_same_1 (ks.map .int) [a, b, .own (.lst (ps.map two)), k, p, kd, at_] = some (.rt (.fz (.bl true)) [a, b, .own (.lst []), k', p', kd', at']) := by
  induction ks with
  | nil => intro ps k p kd at_ _ h _; simp at h
  | cons j ks IH =>
    intro ps k p kd at_ hp h hz
    rcases List.eq_nil_or_concat ps with rfl | ⟨qs, d, rfl⟩
    · have st : mb__law_same_1 [a, b, .own (.lst []), .fz (.int j), p, kd, at_] = some (.rt (.fz (.bl true)) [a, b, .own (.lst []), .fz (.int j), p, kd, at_]) := by
        clear IH
        unfold mb__law_same_1
        walk_at "dl"
      refine ⟨.fz (.int j), p, kd, at_, ?_⟩
      rw [List.map_cons, List.map_nil, mLoop_rt (ρ1 := [a, b, .own (.lst []), .fz (.int j), p, kd, at_]) rfl st]
    · rw [List.concat_eq_append] at *
      have hp2 : pls qs = true ∧ pl d = true := by
        rw [pls_app] at hp
        simpa [pls] using hp
      rw [nods_app] at h hz
      simp only [nods, List.length_cons] at h hz
      have hn := nod_pos d
      obtain ⟨kd2, at2, st⟩ := same_step a b j qs d p kd at_ hp2 (by omega)
      have hkid : nods (kid d) + 1 ≤ nod d := by
        cases d <;> simp only [kid, nod, nods] <;> omega
      have hpk : pls (kid d) = true := by
        have := hp2.2
        cases d <;> simp_all [pl, kid, pls]
      obtain ⟨k', p', kd', at', ih⟩ := IH (qs ++ kid d) (.fz (.int j)) (.fz (two d)) kd2 at2 (by rw [pls_app, hp2.1, hpk]; rfl) (by rw [nods_app]; omega) (by rw [nods_app]; omega)
      refine ⟨k', p', kd', at', ?_⟩
      rw [List.map_cons, mLoop_nx (ρ1 := [a, b, .own (.lst ((qs ++ [d]).map two)), .fz (.int j), p, kd, at_]) rfl st]
      exact ih
theorem same_eq {d e : D} (hp : pl d = true) (hn : nod d < 100000) (he : e = d) : g__law_same [.fz d, .fz e] = some (.ok (.fz (.bl true)) [.un, .un]) := by
  subst he
  obtain ⟨k', p', kd', at', e1⟩ := same_loop (.fz e) (.fz e) (rgI 0 100000) [e] .un .un .un .un (by simp [pls, hp]) (by simp [nods, rgI]; omega) (by simp [nods]; omega)
  rw [← rgD_map] at e1
  unfold two at e1
  rw [List.map_cons, List.map_nil] at e1
  have e9 : (100000 : Int).toNat = 100000 := rfl
  have h1 : (1 : Nat) ≤ sizeLine := by rw [sizeLine_eq]; decide
  unfold g__law_same m__law_same
  walk_at "dl"
/-! the copy, form 0 -/
theorem callP_fz {n : Nat} {g : Fn} {ma : M (List SV)} {ρ ρ' : List SV} {ds : List D} {sv : SV} {outs : List SV} (hma : ma ρ = some (.ok (ds.map .fz) ρ')) (hl : ds.length = n) (hg : g (ds.map .fz) = some (.ok sv outs)) (hv : (∃ d, sv = .fz d) ∨ ∃ es, sv = .own (.lst es)) (ho : outs.length = n) : mCallP n g ma ρ = some (.ok sv ρ') := by
  have hc : ∀ (ds : List D), cons ρ' (ds.map .fz) = some ds := by
    intro ds
    induction ds with
    | nil => rfl
    | cons d ds ih => simp only [List.map_cons, DL.cons, ih, con]
  have hpr : ∀ (ds : List D), prep (List.replicate ds.length false) (ds.map .fz) ρ' = some (.ok (ds.map .fz) ρ') := by
    intro ds
    induction ds with
    | nil => rfl
    | cons d ds ih =>
      simp only [List.map_cons, List.length_cons, List.replicate_succ, prep, prep1, M.bnd, DL.ret]
      rw [ih]
  have hgi : ∀ (ds : List D) (outs : List SV), outs.length = ds.length → give (List.replicate ds.length false) (ds.map .fz) outs ρ' = some ρ' := by
    intro ds
    induction ds with
    | nil => intro outs h; cases outs with
      | nil => rfl
      | cons _ _ => simp at h
    | cons d ds ih => intro outs h; cases outs with
      | nil => simp at h
      | cons o os =>
        simp only [List.map_cons, List.length_cons, List.replicate_succ, give]
        exact ih os (by simpa using h)
  unfold mCallP
  simp only [M.bnd, hma, List.length_map, hl, if_true, hc, hg]
  rcases hv with ⟨d, rfl⟩ | ⟨es, rfl⟩
  · simp only []
    split
    · rfl
    · unfold mCallT
      subst hl
      simp only [M.bnd, hpr, hg, hgi ds outs ho, Option.map_some]
  · simp only []
    split
    · rfl
    · unfold mCallT
      subst hl
      simp only [M.bnd, hpr, hg, hgi ds outs ho, Option.map_some]
mutual
def cpD (f : Int) : D → D
  | .lst ds => if f = 2 then .tup (cpL f ds) else .lst (cpL f ds)
  | .seq ds => if f = 2 then .tup (cpL f ds) else .lst (cpL f ds)
  | .tup ds => if f = 2 ∨ f = 0 then .tup (cpL f ds) else .lst (cpL f ds)
  | d => d
def cpL (f : Int) : List D → List D
  | [] => []
  | d :: ds => cpD f d :: cpL f ds
end
theorem cpL_map (f : Int) : ∀ ds, cpL f ds = ds.map (cpD f)
  | [] => rfl
  | d :: ds => by simp [cpL, cpL_map f ds]
def outR : D → SV
  | .lst ds => .own (.lst ds)
  | d => .fz d
mutual
def dep : D → Nat
  | .lst ds => 1 + deps ds
  | .seq ds => 1 + deps ds
  | .tup ds => 1 + deps ds
  | _ => 0
def deps : List D → Nat
  | [] => 0
  | d :: ds => max (dep d) (deps ds)
end
mutual
def fit : D → Bool
  | .lst ds => decide (ds.length ≤ 100000) && fits ds
  | .seq ds => decide (ds.length ≤ 100000) && fits ds
  | .tup ds => decide (ds.length ≤ 100000) && fits ds
  | .obj _ _ _ => false
  | _ => true
def fits : List D → Bool
  | [] => true
  | d :: ds => fit d && fits ds
end
theorem deps_mem {d : D} : ∀ {ds : List D}, d ∈ ds → dep d ≤ deps ds
  | a :: ds, h => by
    rcases List.mem_cons.mp h with rfl | h
    · simp only [deps]; omega
    · have := deps_mem h; simp only [deps]; omega
theorem fits_mem {d : D} : ∀ {ds : List D}, fits ds = true → d ∈ ds → fit d = true
  | a :: ds, hf, h => by
    simp only [fits, Bool.and_eq_true] at hf
    rcases List.mem_cons.mp h with rfl | h
    · exact hf.1
    · exact fits_mem hf.2 h
theorem copy_gN (f : Int) : ∀ (n : Nat) (d : D), dep d < n → fit d = true → gN__law_copy n [.fz d, .fz (.int f)] = some (.ok (outR (cpD f d)) [.un, .un])
  | 0, d, h, _ => by omega
  | n + 1, d, h, hf => by
    have go : gN__law_copy (n + 1) [.fz d, .fz (.int f)] = fin0 [false, false] (m__law_copy (gN__law_copy n) [.fz d, .fz (.int f), .un, .un]) := rfl
    have many : ∀ (e : D) (ds : List D), itD e = some ds → (∀ x ∈ ds, dep x < n) → fits ds = true → ds.length ≤ 100000 → lcLoop [3] (sto 3) (DL.ret true) (me__law_copy_0 (gN__law_copy n)) ds [.fz e, .fz (.int f), .un, .un] [] = some (ds.map (cpD f), [.fz e, .fz (.int f), .un, .un]) := by
      intro e ds he h1 h2 h3
      have := lcLoop_map (ns := [3]) (g := sto 3) (t := DL.ret true) (e := me__law_copy_0 (gN__law_copy n)) (F := cpD f) (ρ := [.fz e, .fz (.int f), .un, .un]) (ds := ds) (acc := []) (fun x hx => ?_) (by rw [sizeLine_eq]; simp; omega)
      · simpa using this
      · refine ⟨[.fz e, .fz (.int f), .un, .fz x], [.fz e, .fz (.int f), .un, .fz x], [.fz e, .fz (.int f), .un, .fz x], [.fz e, .fz (.int f), .un, .fz x], outR (cpD f x), rfl, rfl, ?_, ?_, rfl⟩
        · unfold me__law_copy_0
          refine callP_fz (ds := [x, .int f]) ?_ rfl (copy_gN f n x (h1 x hx) (fits_mem h2 hx)) ?_ rfl
          · walk_at "dl"
          · cases cpD f x <;> first | exact .inl ⟨_, rfl⟩ | exact .inr ⟨_, rfl⟩
        · cases cpD f x <;> rfl
    rw [go]
    cases d with
    | lst ds =>
      simp only [dep, fit, Bool.and_eq_true, decide_eq_true_eq] at h hf
      have hm := many (.lst ds) ds rfl (fun x hx => by have := deps_mem hx; omega) hf.2 hf.1
      simp only [cpD, cpL_map]
      by_cases c2 : f = 2
      · subst c2
        unfold m__law_copy mLc wipeD wipeD
        walk_at "dl"
        rfl
      · by_cases c0 : f = 0
        · subst c0
          unfold m__law_copy mLc wipeD wipeD
          walk_at "dl"
          rfl
        · unfold m__law_copy mLc wipeD wipeD
          walk_at "dl"
          rfl
    | seq ds =>
      simp only [dep, fit, Bool.and_eq_true, decide_eq_true_eq] at h hf
      have hm := many (.seq ds) ds rfl (fun x hx => by have := deps_mem hx; omega) hf.2 hf.1
      simp only [cpD, cpL_map]
      by_cases c2 : f = 2
      · subst c2
        unfold m__law_copy mLc wipeD wipeD
        walk_at "dl"
        rfl
      · by_cases c0 : f = 0
        · subst c0
          unfold m__law_copy mLc wipeD wipeD
          walk_at "dl"
          rfl
        · unfold m__law_copy mLc wipeD wipeD
          walk_at "dl"
          rfl
    | tup ds =>
      simp only [dep, fit, Bool.and_eq_true, decide_eq_true_eq] at h hf
      have hm := many (.tup ds) ds rfl (fun x hx => by have := deps_mem hx; omega) hf.2 hf.1
      simp only [cpD, cpL_map]
      by_cases c2 : f = 2
      · subst c2
        unfold m__law_copy mLc wipeD wipeD
        walk_at "dl"
        rfl
      · by_cases c0 : f = 0
        · subst c0
          unfold m__law_copy mLc wipeD wipeD
          walk_at "dl"
          rfl
        · unfold m__law_copy mLc wipeD wipeD
          walk_at "dl"
          rfl
    | obj _ _ _ => simp [fit] at hf
    | non => unfold m__law_copy; walk_at "dl"; rfl
    | bl _ => unfold m__law_copy; walk_at "dl"; rfl
    | int _ => unfold m__law_copy; walk_at "dl"; rfl
    | str _ => unfold m__law_copy; walk_at "dl"; rfl
theorem copy_eq {d : D} (f : Int) (h : dep d < 5) (hf : fit d = true) : g__law_copy [.fz d, .fz (.int f)] = some (.ok (outR (cpD f d)) [.un, .un]) := copy_gN f 5 d h hf

theorem pick_int (s : Sto) (hs : s.ok) (ns : List Int) (h0 : 0 < ns.length) (hl : ns.length < 1000000) : ∃ (r : Int) (s' : Sto), s'.ok ∧ r ∈ ns ∧ g__law_pick [.own s.d, .fz (.lst (ns.map .int))] = some (.ok (.fz (.int r)) [.own s'.d, .un]) := by
  obtain ⟨n, d, s', h1, h2, h3⟩ := pick_eq s hs (ns.map .int) (by simpa using h0) (by simpa using hl)
  rw [List.getElem?_map] at h2
  cases h4 : ns[n]? with
  | none => rw [h4] at h2; cases h2
  | some r =>
    rw [h4] at h2; cases h2
    exact ⟨r, s', h1, List.mem_of_getElem? h4, h3⟩
theorem same_small {d : D} (hp : pl d = true) (hn : Nat.ble (nod d) 99999 = true) : g__law_same [.fz d, .fz d] = some (.ok (.fz (.bl true)) [.un, .un]) := same_eq hp (by have := Nat.le_of_ble_eq_true hn; omega) rfl
theorem copy_small {d : D} (f : Int) (h : Nat.ble (dep d + 1) 5 = true) (hf : fit d = true) : g__law_copy [.fz d, .fz (.int f)] = some (.ok (outR (cpD f d)) [.un, .un]) := copy_eq f (Nat.le_of_ble_eq_true h) hf

theorem rgL_ok {n : Nat} {ρ : List SV} (h : n ≤ 1000000) : rgL 0 (n : Int) ρ = some (.ok (.own (.lst (rgD 0 n))) ρ) := by
  unfold rgL
  have h1 : rgOk 0 = true := by decide
  have h2 : rgOk (n : Int) = true := rgOk_of (by omega) (by omega)
  have h3 : ((n : Int) - 0).toNat = n := by omega
  rw [h1, h2, h3, nlt_iff.mpr (show n < 2 ^ 24 + 1 by omega)]
  rfl
theorem rgI_len {lo : Int} {n : Nat} : (rgI lo n).length = n := by simp [rgI]
theorem rgI_get {lo : Int} {n k : Nat} (h : k < n) : (rgI lo n)[k]? = some (lo + (k : Nat)) := by
  unfold rgI
  rw [List.getElem?_map, List.getElem?_range h]
  rfl
theorem rgI_rev {n : Nat} : (rgI 0 n).map (fun k => (n : Int) - 1 - k) = (rgI 0 n).reverse := by
  apply List.ext_getElem?
  intro k
  by_cases h : k < n
  · rw [List.getElem?_map, rgI_get h, List.getElem?_reverse (by rw [rgI_len]; exact h), rgI_len, rgI_get (by omega)]
    simp only [Option.map_some, Option.some.injEq]
    omega
  · rw [List.getElem?_eq_none (by rw [List.length_map, rgI_len]; omega), List.getElem?_eq_none (by rw [List.length_reverse, rgI_len]; omega)]
theorem map_erase {α β : Type} (f : α → β) : ∀ (l : List α) (k : Nat), (l.map f).eraseIdx k = (l.eraseIdx k).map f
  | [], k => rfl
  | a :: l, 0 => rfl
  | a :: l, k + 1 => by simp only [List.map_cons, List.eraseIdx_cons_succ, map_erase f l k]
theorem erase_perm {α : Type} : ∀ {l : List α} {k : Nat} {x : α}, l[k]? = some x → (x :: l.eraseIdx k).Perm l
  | [], k, x, h => by simp at h
  | a :: l, 0, x, h => by
    simp at h
    subst h
    exact List.Perm.refl _
  | a :: l, k + 1, x, h => by
    simp only [List.getElem?_cons_succ] at h
    simp only [List.eraseIdx_cons_succ]
    exact (List.Perm.swap _ _ _).trans ((erase_perm h).cons a)
theorem order_loop (sz w : SV) : ∀ (ks : List Int) (s : Sto) (rest found : List Int) (k : SV), s.ok → ks.length = rest.length → rest.length + found.length ≤ 100000 →
    ∃ (s' : Sto) (os : List Int) (k' : SV), s'.ok ∧ os.Perm (found ++ rest) ∧ mLoop (sto 4) mb__law_order_1 (ks.map .int) [.own s.d, sz, .own (.lst (rest.map .int)), w, k, .own (.lst (found.map .int))] = some (.nx [.own s'.d, sz, .own (.lst []), w, k', .own (.lst (os.map .int))])
  | [], s, rest, found, k, hs, hl, hz => by
    have : rest = [] := List.length_eq_zero_iff.mp hl.symm
    subst this
    exact ⟨s, found, k, hs, by simp, rfl⟩
  | j :: ks, s, rest, found, k, hs, hl, hz => by
    simp only [List.length_cons] at hl
    obtain ⟨r, s1, h1, e1, r0, r1, r2⟩ := take_eq s hs (rest.length : Int) (manyOk_small (by omega) (by omega))
    have hr : r.toNat < rest.length := by
      by_cases h : (rest.length : Int) < 2
      · rw [r2 h]; simp; omega
      · have := r1 (by omega); omega
    have x1 : ixN rest.length r = some r.toNat := ixN_of r0 (by omega)
    obtain ⟨x, hx⟩ : ∃ x, rest[r.toNat]? = some x := ⟨rest[r.toNat], by simp [hr]⟩
    have x2 : (rest.map D.int)[r.toNat]? = some (.int x) := by rw [List.getElem?_map, hx]; rfl
    have x3 : (rest.map D.int).eraseIdx r.toNat = (rest.eraseIdx r.toNat).map .int := map_erase _ _ _
    have x4 : rgOk r = true := rgOk_of (by omega) (by omega)
    have x5 : found.length < sizeLine := by rw [sizeLine_eq]; omega
    have st : mb__law_order_1 [.own s.d, sz, .own (.lst (rest.map .int)), w, .fz (.int j), .own (.lst (found.map .int))] = some (.nx [.own s1.d, sz, .own (.lst ((rest.eraseIdx r.toNat).map .int)), w, .fz (.int j), .own (.lst ((found ++ [x]).map .int))]) := by
      clear hl hz r1 r2 hx
      simp only [List.map_append, List.map_cons, List.map_nil]
      unfold Sto.d at e1
      unfold mb__law_order_1 Sto.d
      walk_at "dl"
    obtain ⟨s2, os, k2, h2, p2, e2⟩ := order_loop sz w ks s1 (rest.eraseIdx r.toNat) (found ++ [x]) (.fz (.int j)) h1 (by rw [List.length_eraseIdx_of_lt hr]; omega) (by rw [List.length_eraseIdx_of_lt hr, List.length_append, List.length_singleton]; omega)
    refine ⟨s2, os, k2, h2, p2.trans ?_, ?_⟩
    · rw [List.append_assoc]
      exact List.Perm.append_left found (erase_perm hx)
    · rw [List.map_cons, mLoop_nx rfl st]
      exact e2
theorem order_eq (s : Sto) (hs : s.ok) (n : Nat) (hn : n ≤ 100000) : ∃ (s' : Sto) (os : List Int), s'.ok ∧ os.Perm (rgI 0 n) ∧ g__law_order [.own s.d, .fz (.int n)] = some (.ok (.own (.lst (os.map .int))) [.own s'.d, .un]) := by
  obtain ⟨way, s1, h1, e1, w0, w1, _⟩ := take_eq s hs 6 (manyOk_small (by decide) (by decide))
  have hr := fun ρ => rgL_ok (n := n) (ρ := ρ) (by omega)
  have hg : rgOk (n : Int) = true := rgOk_of (by omega) (by omega)
  have go : g__law_order [.own s.d, .fz (.int n)] = fin0 [true, false] (m__law_order [.own s.d, .fz (.int n), .un, .un, .un, .un]) := rfl
  have ha : st__law_order_0 [.own s.d, .fz (.int n), .un, .un, .un, .un] = some (.nx [.own s.d, .fz (.int n), .own (.lst (rgD 0 n)), .un, .un, .un]) := by
    clear e1
    unfold st__law_order_0
    walk_at "dl"
  have hb : st__law_order_1 [.own s.d, .fz (.int n), .own (.lst (rgD 0 n)), .un, .un, .un] = some (.nx [.own s1.d, .fz (.int n), .own (.lst (rgD 0 n)), .fz (.int way), .un, .un]) := by
    clear ha go
    unfold Sto.d at e1
    unfold st__law_order_1 Sto.d
    walk_at "dl"
  rw [go, m__law_order_eq, mSeq_nx ha, mSeq_nx hb]
  clear ha hb go e1
  by_cases c0 : way = 0
  · subst c0
    refine ⟨s1, rgI 0 n, h1, List.Perm.refl _, ?_⟩
    rw [← rgD_map]
    unfold st__law_order_2
    walk_at "dl"
  by_cases c1 : way = 1
  · subst c1
    refine ⟨s1, (rgI 0 n).reverse, h1, List.reverse_perm _, ?_⟩
    rw [← rgI_rev]
    have el := lcLoop_map (ns := [4]) (g := sto 4) (t := DL.ret true) (e := me__law_order_0) (F := fun d => match d with | .int k => .int ((n : Int) - 1 - k) | d => d) (ρ := [.own s1.d, .fz (.int n), .own (.lst (rgD 0 n)), .fz (.int 1), .un, .un]) (ds := rgD 0 n) (acc := []) (fun x hx => by
      rw [rgD_map] at hx
      obtain ⟨k, _, rfl⟩ := List.mem_map.mp hx
      refine ⟨[.own s1.d, .fz (.int n), .own (.lst (rgD 0 n)), .fz (.int 1), .fz (.int k), .un], [.own s1.d, .fz (.int n), .own (.lst (rgD 0 n)), .fz (.int 1), .fz (.int k), .un], [.own s1.d, .fz (.int n), .own (.lst (rgD 0 n)), .fz (.int 1), .fz (.int k), .un], [.own s1.d, .fz (.int n), .own (.lst (rgD 0 n)), .fz (.int 1), .fz (.int k), .un], .fz (.int ((n : Int) - 1 - k)), rfl, rfl, ?_, rfl, rfl⟩
      unfold me__law_order_0
      walk_at "dl") (by rw [sizeLine_eq]; simp [rgD]; omega)
    have ef : (rgD 0 n).map (fun d => match d with | .int k => D.int ((n : Int) - 1 - k) | d => d) = ((rgI 0 n).map (fun k => (n : Int) - 1 - k)).map .int := by
      rw [rgD_map, List.map_map, List.map_map]
      rfl
    rw [ef, List.nil_append] at el
    unfold st__law_order_2 st__law_order_3
    clear ef
    walk_at "dl"
  · obtain ⟨s2, os, k2, h2, p2, e2⟩ := order_loop (.fz (.int n)) (.fz (.int way)) (rgI 0 n) s1 (rgI 0 n) [] .un h1 rfl (by rw [rgI_len]; simp; omega)
    refine ⟨s2, os, h2, p2, ?_⟩
    rw [← rgD_map, List.map_nil] at e2
    unfold st__law_order_2 st__law_order_3 st__law_order_4 st__law_order_5 st__law_order_6
    walk_at "dl"
theorem mixed_eq (s : Sto) (hs : s.ok) (ns : List Int) (hn : ns.length ≤ 100000) : ∃ (s' : Sto) (b : Bool), s'.ok ∧ g__law_mixed [.own s.d, .fz (.lst (ns.map .int))] = some (.ok (if b then .fz (.tup (ns.map .int)) else .own (.lst (ns.map .int))) [.own s'.d, .un]) := by
  obtain ⟨b, s1, h1, e1⟩ := rare_eq s hs 2 (manyOk_small (by decide) (by decide))
  have ea : ∀ x : Int, gN__law_mixed 2 [.own s.d, .fz (.int x)] = some (.ok (.fz (.int x)) [.own s.d, .un]) := fun x => by
    show fin0 [true, false] (m__law_mixed (gN__law_mixed 1) [.own s.d, .fz (.int x), .un, .un]) = _
    clear e1
    unfold m__law_mixed
    walk_at "dl"
  have el := lcLoop_map (ns := [3]) (g := sto 3) (t := DL.ret true) (e := me__law_mixed_0 (gN__law_mixed 2)) (F := id) (ρ := [.own s.d, .fz (.lst (ns.map .int)), .un, .un]) (ds := ns.map .int) (acc := []) (fun d hd => by
    obtain ⟨x, _, rfl⟩ := List.mem_map.mp hd
    refine ⟨[.own s.d, .fz (.lst (ns.map .int)), .un, .fz (.int x)], [.own s.d, .fz (.lst (ns.map .int)), .un, .fz (.int x)], [.own s.d, .fz (.lst (ns.map .int)), .un, .fz (.int x)], [.own s.d, .fz (.lst (ns.map .int)), .un, .fz (.int x)], .fz (.int x), rfl, rfl, ?_, rfl, rfl⟩
    have ex := ea x
    clear e1
    unfold me__law_mixed_0
    walk_at "dl") (by rw [sizeLine_eq]; simp; omega)
  rw [List.map_id, List.nil_append] at el
  refine ⟨s1, b, h1, ?_⟩
  show fin0 [true, false] (m__law_mixed (gN__law_mixed 2) [.own s.d, .fz (.lst (ns.map .int)), .un, .un]) = _
  generalize ns.map D.int = ds at el ⊢
  clear ea
  unfold Sto.d at e1 el
  unfold m__law_mixed Sto.d
  cases b
  · walk_at "dl"
  · walk_at "dl"

theorem piles_step (s : Sto) (hs : s.ok) (sz kk va : SV) (top way tot : Int) (ht0 : 0 ≤ top) (ht : top < 2 ^ 190) (fo : List Int) (hf : fo.length < 100000) : ∃ (s' : Sto) (x tot' : Int) (v' : SV), s'.ok ∧
    mb__law_pile_list_0 [.own s.d, sz, .fz (.int top), .fz (.int way), .own (.lst (fo.map .int)), .fz (.int tot), kk, va] = some (.nx [.own s'.d, sz, .fz (.int top), .fz (.int way), .own (.lst ((fo ++ [x]).map .int)), .fz (.int tot'), kk, v']) := by
  obtain ⟨v0, s1, h1, e1, _⟩ := take_eq s hs 5 (manyOk_small (by decide) (by decide))
  have a0 : sb__law_pile_list_0_0 [.own s.d, sz, .fz (.int top), .fz (.int way), .own (.lst (fo.map .int)), .fz (.int tot), kk, va] = some (.nx [.own s1.d, sz, .fz (.int top), .fz (.int way), .own (.lst (fo.map .int)), .fz (.int tot), kk, .fz (.int (v0 - 1))]) := by
    unfold Sto.d at e1
    unfold sb__law_pile_list_0_0 Sto.d
    walk_at "dl"
  have a1 : ∃ (s2 : Sto) (v : Int), s2.ok ∧ sb__law_pile_list_0_1 [.own s1.d, sz, .fz (.int top), .fz (.int way), .own (.lst (fo.map .int)), .fz (.int tot), kk, .fz (.int (v0 - 1))] = some (.nx [.own s2.d, sz, .fz (.int top), .fz (.int way), .own (.lst (fo.map .int)), .fz (.int tot), kk, .fz (.int v)]) := by
    obtain ⟨y, s2, h2, e2, _⟩ := take_eq s1 h1 4 (manyOk_small (by decide) (by decide))
    clear a0 e1
    unfold Sto.d at e2
    by_cases c : way = 1
    · refine ⟨s2, tot + y - 1, h2, ?_⟩
      unfold sb__law_pile_list_0_1 Sto.d
      walk_at "dl"
    · refine ⟨s1, v0 - 1, h1, ?_⟩
      unfold sb__law_pile_list_0_1 Sto.d
      walk_at "dl"
  obtain ⟨s2, v1, h2, a1⟩ := a1
  have a2 : ∃ (s3 : Sto) (v : Int), s3.ok ∧ sb__law_pile_list_0_2 [.own s2.d, sz, .fz (.int top), .fz (.int way), .own (.lst (fo.map .int)), .fz (.int tot), kk, .fz (.int v1)] = some (.nx [.own s3.d, sz, .fz (.int top), .fz (.int way), .own (.lst (fo.map .int)), .fz (.int tot), kk, .fz (.int v)]) := by
    obtain ⟨y, s3, h3, _, _, e3⟩ := upto_eq s2 h2 top ht ht0
    clear a0 a1 e1
    unfold Sto.d at e3
    by_cases c : way = 2
    · refine ⟨s3, y, h3, ?_⟩
      unfold sb__law_pile_list_0_2 Sto.d
      walk_at "dl"
    · refine ⟨s2, v1, h2, ?_⟩
      unfold sb__law_pile_list_0_2 Sto.d
      walk_at "dl"
  obtain ⟨s3, v2, h3, a2⟩ := a2
  have a3 : ∃ (s4 : Sto) (v : Int), s4.ok ∧ sb__law_pile_list_0_3 [.own s3.d, sz, .fz (.int top), .fz (.int way), .own (.lst (fo.map .int)), .fz (.int tot), kk, .fz (.int v2)] = some (.nx [.own s4.d, sz, .fz (.int top), .fz (.int way), .own (.lst (fo.map .int)), .fz (.int tot), kk, .fz (.int v)]) := by
    obtain ⟨b, s4, h4, e4⟩ := rare_eq s3 h3 8 (manyOk_small (by decide) (by decide))
    clear a0 a1 a2 e1
    unfold Sto.d at e4
    cases b
    · refine ⟨s4, v2, h4, ?_⟩
      unfold sb__law_pile_list_0_3 Sto.d
      walk_at "dl"
    · refine ⟨s4, -1, h4, ?_⟩
      unfold sb__law_pile_list_0_3 Sto.d
      walk_at "dl"
  obtain ⟨s4, v3, h4, a3⟩ := a3
  have hz : fo.length < sizeLine := by rw [sizeLine_eq]; omega
  rw [mb__law_pile_list_0_eq, mSeq_nx a0, mSeq_nx a1, mSeq_nx a2, mSeq_nx a3]
  clear a0 a1 a2 a3 e1
  refine ⟨s4, if v3 < top then v3 else top, if tot + (if v3 > 0 then v3 else 0) < top then tot + (if v3 > 0 then v3 else 0) else top, .fz (.int v3), h4, ?_⟩
  simp only [List.map_append, List.map_cons, List.map_nil]
  unfold sb__law_pile_list_0_4 sb__law_pile_list_0_5
  walk_at "dl"
theorem getI {fo : List Int} {k : Int} (h0 : 0 ≤ k) (h : k < fo.length) : atI (fo.map D.int) k = some (.int (fo.getD k.toNat 0)) := by
  rw [atI_of h0, List.getElem?_map]
  have : k.toNat < fo.length := by omega
  simp [this]
theorem piles_eq (s : Sto) (hs : s.ok) (n : Nat) (hn : n ≤ 1000) (top : Int) (ht0 : 0 ≤ top) (ht : top < 2 ^ 190) : ∃ (s' : Sto) (ns : List Int), s'.ok ∧ ns.length = n ∧ g__law_pile_list [.own s.d, .fz (.int n), .fz (.int top)] = some (.ok (.own (.lst (ns.map .int))) [.own s'.d, .un, .un]) := by
  obtain ⟨way, s1, h1, e1, _⟩ := take_eq s hs 3 (manyOk_small (by decide) (by decide))
  have hg : rgOk (n : Int) = true := rgOk_of (by omega) (by omega)
  obtain ⟨ρ2, e2, s2, fo, tot, k2, v2, h2, l2, rfl⟩ := mLoop_ix (g := sto 6) (b := mb__law_pile_list_0) (ds := rgD 0 n) (k := 0) (fun i ρ => ∃ (s' : Sto) (fo : List Int) (tot : Int) (kk va : SV), s'.ok ∧ fo.length = i ∧ ρ = [.own s'.d, .fz (.int n), .fz (.int top), .fz (.int way), .own (.lst (fo.map .int)), .fz (.int tot), kk, va])
    (ρ := [.own s1.d, .fz (.int n), .fz (.int top), .fz (.int way), .own (.lst []), .fz (.int 0), .un, .un]) (fun i d ρ hd hi => by
      obtain ⟨s', fo, tot, kk, va, h', l', rfl⟩ := hi
      have hi : i < n := by
        have := (List.getElem?_eq_some_iff.mp hd).1
        simpa [rgD] using this
      obtain ⟨s3, x, tot', v', h3, e3⟩ := piles_step s' h' (.fz (.int n)) (.fz d) va top way tot ht0 ht fo (by omega)
      exact ⟨_, _, rfl, e3, s3, fo ++ [x], tot', .fz d, v', h3, by simp; omega, rfl⟩) ⟨s1, [], 0, .un, .un, h1, rfl, rfl⟩
  have l3 : fo.length = n := by rw [l2]; simp [rgD]
  obtain ⟨s3, os, h3, p3, e3⟩ := order_eq s2 h2 n (by omega)
  have el := lcLoop_map (ns := [6]) (g := sto 6) (t := DL.ret true) (e := me__law_pile_list_1) (F := fun d => match d with | .int k => .int (fo.getD k.toNat 0) | d => d) (ρ := [.own s3.d, .fz (.int n), .fz (.int top), .fz (.int way), .own (.lst (fo.map .int)), .fz (.int tot), .un, v2]) (ds := os.map .int) (acc := []) (fun x hx => by
      obtain ⟨k, hk, rfl⟩ := List.mem_map.mp hx
      have hk2 := mem_rgI.mp (p3.mem_iff.mp hk)
      have ga := getI (fo := fo) (k := k) (by omega) (by omega)
      refine ⟨[.own s3.d, .fz (.int n), .fz (.int top), .fz (.int way), .own (.lst (fo.map .int)), .fz (.int tot), .fz (.int k), v2], [.own s3.d, .fz (.int n), .fz (.int top), .fz (.int way), .own (.lst (fo.map .int)), .fz (.int tot), .fz (.int k), v2], [.own s3.d, .fz (.int n), .fz (.int top), .fz (.int way), .own (.lst (fo.map .int)), .fz (.int tot), .fz (.int k), v2], [.own s3.d, .fz (.int n), .fz (.int top), .fz (.int way), .own (.lst (fo.map .int)), .fz (.int tot), .fz (.int k), v2], .fz (.int (fo.getD k.toNat 0)), rfl, rfl, ?_, rfl, rfl⟩
      clear e1 e2 e3
      unfold me__law_pile_list_1
      walk_at "dl") (by rw [sizeLine_eq]; have := p3.length_eq; rw [rgI_len] at this; simp; omega)
  have ef : (os.map D.int).map (fun d => match d with | .int k => D.int (fo.getD k.toNat 0) | d => d) = (os.map (fun k => fo.getD k.toNat 0)).map .int := by
    rw [List.map_map, List.map_map]
    rfl
  rw [ef, List.nil_append] at el
  refine ⟨s3, os.map (fun k => fo.getD k.toNat 0), h3, by rw [List.length_map, p3.length_eq, rgI_len], ?_⟩
  clear ef p3
  unfold Sto.d at e1 e2 e3 el
  show fin0 _ (m__law_pile_list [.own s.d, .fz (.int n), .fz (.int top), .un, .un, .un, .un, .un]) = _
  unfold m__law_pile_list Sto.d
  walk_at "dl"

theorem gap_eq (s : Sto) (hs : s.ok) (n : Nat) (hn : n ≤ 1000) : ∃ (s' : Sto) (ns : List Int), s'.ok ∧ 0 < ns.length ∧ ns.length ≤ 2000 ∧ g__law_gap [.own s.d, .fz (.int n)] = some (.ok (.own (.lst (ns.map .int))) [.own s'.d, .un]) := by
  obtain ⟨v, s1, h1, _, _, e1⟩ := upto_eq s hs 100000000000000000000 (by decide) (by decide)
  obtain ⟨x, s2, h2, e2, _⟩ := take_eq s1 h1 2 (manyOk_small (by decide) (by decide))
  have hk : (10 : Int) ^ 20 = 100000000000000000000 := by decide
  have h3z : (3 : Nat) ≤ sizeLine := by rw [sizeLine_eq]; decide
  have hi : intsOf [.int (1 + v), .int (1 + v), .int (1 + v + x)] = some [1 + v, 1 + v, 1 + v + x] := rfl
  obtain ⟨tot, htot⟩ : ∃ t, [1 + v, 1 + v, 1 + v + x].sum = t := ⟨_, rfl⟩
  have hg : rgOk (n : Int) = true := rgOk_of (by omega) (by omega)
  have hg3 : rgOk 3 = true := by decide
  obtain ⟨ρ2, e3, s3, ps, tot', kk, h3, l3, lz, rfl⟩ := mLoop_ix (g := sto 5) (b := mb__law_gap_0) (ds := rgD 3 ((n : Int) - 3).toNat) (k := 0) (fun i ρ => ∃ (s' : Sto) (ps : List Int) (tot : Int) (kk : SV), s'.ok ∧ 0 < ps.length ∧ ps.length ≤ 3 + i ∧ ρ = [.own s'.d, .fz (.int n), .fz (.int (1 + v)), .own (.lst (ps.map .int)), .fz (.int tot), kk])
    (ρ := [.own s2.d, .fz (.int n), .fz (.int (1 + v)), .own (.lst [.int (1 + v), .int (1 + v), .int (1 + v + x)]), .fz (.int tot), .un]) (fun i d ρ hd hi => by
      obtain ⟨s', ps, tot, kk, h', l', l2, rfl⟩ := hi
      have hi : i < ((n : Int) - 3).toNat := by
        have := (List.getElem?_eq_some_iff.mp hd).1
        simpa [rgD] using this
      have hl := atI_last (xs := ps.map D.int) (by simpa using l')
      have ex : ∃ y : Int, (ps.map D.int)[(ps.map D.int).length - 1]'(by simp; omega) = .int y := ⟨ps[ps.length - 1]'(by omega), by simp⟩
      obtain ⟨y, ey⟩ := ex
      rw [ey] at hl
      clear ey
      have hz : ps.length < sizeLine := by rw [sizeLine_eq]; omega
      have st : mb__law_gap_0 [.own s'.d, .fz (.int n), .fz (.int (1 + v)), .own (.lst (ps.map .int)), .fz (.int tot), .fz d] = some (.nx [.own s'.d, .fz (.int n), .fz (.int (1 + v)), .own (.lst ((ps ++ [tot + y]).map .int)), .fz (.int (tot + y)), .fz d]) := by
        clear e1 e2
        simp only [List.map_append, List.map_cons, List.map_nil]
        unfold mb__law_gap_0
        walk_at "dl"
      exact ⟨_, _, rfl, st, s', ps ++ [tot + y], tot + y, .fz d, h', by simp, by simp; omega, rfl⟩) ⟨s2, [1 + v, 1 + v, 1 + v + x], tot, .un, h2, by simp, by simp, rfl⟩
  have lz2 : ps.length ≤ 1010 := by simp [rgD] at lz; omega
  obtain ⟨s4, os, h4, p4, e4⟩ := order_eq s3 h3 ps.length (by omega)
  have el := lcLoop_map (ns := [5]) (g := sto 5) (t := DL.ret true) (e := me__law_gap_1) (F := fun d => match d with | .int k => .int (ps.getD k.toNat 0) | d => d) (ρ := [.own s4.d, .fz (.int n), .fz (.int (1 + v)), .own (.lst (ps.map .int)), .fz (.int tot'), .un]) (ds := os.map .int) (acc := []) (fun x hx => by
      obtain ⟨k, hk, rfl⟩ := List.mem_map.mp hx
      have hk2 := mem_rgI.mp (p4.mem_iff.mp hk)
      have ga := getI (fo := ps) (k := k) (by omega) (by omega)
      refine ⟨[.own s4.d, .fz (.int n), .fz (.int (1 + v)), .own (.lst (ps.map .int)), .fz (.int tot'), .fz (.int k)], [.own s4.d, .fz (.int n), .fz (.int (1 + v)), .own (.lst (ps.map .int)), .fz (.int tot'), .fz (.int k)], [.own s4.d, .fz (.int n), .fz (.int (1 + v)), .own (.lst (ps.map .int)), .fz (.int tot'), .fz (.int k)], [.own s4.d, .fz (.int n), .fz (.int (1 + v)), .own (.lst (ps.map .int)), .fz (.int tot'), .fz (.int k)], .fz (.int (ps.getD k.toNat 0)), rfl, rfl, ?_, rfl, rfl⟩
      clear e1 e2 e3 e4
      unfold me__law_gap_1
      walk_at "dl") (by rw [sizeLine_eq]; have := p4.length_eq; rw [rgI_len] at this; simp; omega)
  have ef : (os.map D.int).map (fun d => match d with | .int k => D.int (ps.getD k.toNat 0) | d => d) = (os.map (fun k => ps.getD k.toNat 0)).map .int := by
    rw [List.map_map, List.map_map]
    rfl
  rw [ef, List.nil_append] at el
  refine ⟨s4, os.map (fun k => ps.getD k.toNat 0), h4, by rw [List.length_map, p4.length_eq, rgI_len]; exact l3, by rw [List.length_map, p4.length_eq, rgI_len]; omega, ?_⟩
  clear ef p4 lz
  unfold Sto.d at e1 e2 e3 e4 el
  show fin0 _ (m__law_gap [.own s.d, .fz (.int n), .un, .un, .un, .un]) = _
  unfold m__law_gap Sto.d
  walk_at "dl"
theorem asked_eq (s : Sto) (hs : s.ok) (n : Nat) (hn0 : 0 < n) (hn : n ≤ 1000) (top : Int) (ht0 : 0 ≤ top) (ht : top < 2 ^ 190) : ∃ (s' : Sto) (ns : List Int), s'.ok ∧ 0 < ns.length ∧ ns.length ≤ 2000 ∧ g__law_asked [.own s.d, .fz (.int n), .fz (.int top)] = some (.ok (.own (.lst (ns.map .int))) [.own s'.d, .un, .un]) := by
  obtain ⟨way, s1, h1, e1, w0, w1, _⟩ := take_eq s hs 4 (manyOk_small (by decide) (by decide))
  have hg : rgOk (n : Int) = true := rgOk_of (by omega) (by omega)
  have go : g__law_asked [.own s.d, .fz (.int n), .fz (.int top)] = fin0 [true, false, false] (m__law_asked [.own s.d, .fz (.int n), .fz (.int top), .un, .un, .un, .un, .un]) := rfl
  have ha : st__law_asked_0 [.own s.d, .fz (.int n), .fz (.int top), .un, .un, .un, .un, .un] = some (.nx [.own s1.d, .fz (.int n), .fz (.int top), .fz (.int way), .un, .un, .un, .un]) := by
    unfold Sto.d at e1
    unfold st__law_asked_0 Sto.d
    walk_at "dl"
  by_cases c0 : way = 0
  · obtain ⟨s2, ns, h2, l2, l3, e2⟩ := gap_eq s1 h1 n hn
    refine ⟨s2, ns, h2, l2, l3, ?_⟩
    rw [go, m__law_asked_eq, mSeq_nx ha]
    clear go ha e1
    subst c0
    unfold Sto.d at e2
    unfold st__law_asked_1 Sto.d
    walk_at "dl"
  by_cases c1 : way = 1
  · obtain ⟨ys, ρ', k1, k2, k3, s2, h2, rfl⟩ := lcLoop_inv (ns := [6]) (g := sto 6) (t := DL.ret true) (e := me__law_asked_0) (fun ρ => ∃ s' : Sto, s'.ok ∧ ρ = [.own s'.d, .fz (.int n), .fz (.int top), .fz (.int way), .un, .un, .un, .un]) (fun y => ∃ i : Int, y = .int i)
      (ds := rgD 0 n) (acc := []) (ρ := [.own s1.d, .fz (.int n), .fz (.int top), .fz (.int way), .un, .un, .un, .un]) (fun d hd ρ hρ => by
        obtain ⟨s', h', rfl⟩ := hρ
        obtain ⟨y, s2, h2, _, e2⟩ := pick_int s' h' [-1, 0, 0, 1] (by decide) (by decide)
        simp only [List.map_cons, List.map_nil] at e2
        refine ⟨[.own s'.d, .fz (.int n), .fz (.int top), .fz (.int way), .un, .un, .fz d, .un], [.own s'.d, .fz (.int n), .fz (.int top), .fz (.int way), .un, .un, .fz d, .un], [.own s2.d, .fz (.int n), .fz (.int top), .fz (.int way), .un, .un, .fz d, .un], [.own s2.d, .fz (.int n), .fz (.int top), .fz (.int way), .un, .un, .fz d, .un], .fz (.int y), .int y, rfl, rfl, ?_, rfl, ⟨y, rfl⟩, s2, h2, rfl⟩
        clear e1 ha
        unfold Sto.d at e2
        unfold me__law_asked_0 Sto.d
        walk_at "dl") (by rw [sizeLine_eq]; simp [rgD]; omega) ⟨s1, h1, rfl⟩
    obtain ⟨ns, rfl⟩ := ints_of k3
    rw [List.nil_append] at k1
    have l2 : ns.length = n := by simpa [rgD] using k2
    refine ⟨s2, ns, h2, by omega, by omega, ?_⟩
    rw [go, m__law_asked_eq, mSeq_nx ha]
    clear go ha e1 k3 k2
    subst c1
    unfold Sto.d at k1
    unfold st__law_asked_1 st__law_asked_2 Sto.d
    walk_at "dl"
  obtain ⟨s2, ns, h2, l2, e2⟩ := piles_eq s1 h1 n hn top ht0 ht
  have hb : st__law_asked_3 [.own s1.d, .fz (.int n), .fz (.int top), .fz (.int way), .un, .un, .un, .un] = some (.nx [.own s2.d, .fz (.int n), .fz (.int top), .fz (.int way), .own (.lst (ns.map .int)), .un, .un, .un]) := by
    clear ha e1
    unfold Sto.d at e2
    unfold st__law_asked_3 Sto.d
    walk_at "dl"
  have hc : st__law_asked_1 [.own s1.d, .fz (.int n), .fz (.int top), .fz (.int way), .un, .un, .un, .un] = some (.nx [.own s1.d, .fz (.int n), .fz (.int top), .fz (.int way), .un, .un, .un, .un]) := by
    clear ha hb e1
    unfold st__law_asked_1
    walk_at "dl"
  have hd : st__law_asked_2 [.own s1.d, .fz (.int n), .fz (.int top), .fz (.int way), .un, .un, .un, .un] = some (.nx [.own s1.d, .fz (.int n), .fz (.int top), .fz (.int way), .un, .un, .un, .un]) := by
    clear ha hb hc e1
    unfold st__law_asked_2
    walk_at "dl"
  rw [go, m__law_asked_eq, mSeq_nx ha, mSeq_nx hc, mSeq_nx hd, mSeq_nx hb]
  clear ha hb hc hd go e1 e2
  by_cases c2 : way = 2
  · by_cases c3 : 1 < (n : Int)
    · obtain ⟨at_, s3, h3, e3, a0, a1, _⟩ := take_eq s2 h2 (n : Int) (manyOk_small (by omega) (by omega))
      have a2 := a1 (by omega)
      have el := lcLoopV_filter (j := 4) (d0 := ns.map .int) rfl (ns := [7]) (g := sto 7) (t := mt__law_asked_2) (e := me__law_asked_1) (p := fun d => match d with | .int i => decide (0 ≤ i) | _ => false) (F := id) (ρ := [.own s3.d, .fz (.int n), .fz (.int top), .fz (.int way), .own (.lst (ns.map .int)), .fz (.int at_), .un, .un]) (ds := ns.map .int) (acc := []) (fun d hd => by
        obtain ⟨x, _, rfl⟩ := List.mem_map.mp hd
        refine ⟨[.own s3.d, .fz (.int n), .fz (.int top), .fz (.int way), .own (.lst (ns.map .int)), .fz (.int at_), .un, .fz (.int x)], [.own s3.d, .fz (.int n), .fz (.int top), .fz (.int way), .own (.lst (ns.map .int)), .fz (.int at_), .un, .fz (.int x)], rfl, ?_, fun hp => ⟨[.own s3.d, .fz (.int n), .fz (.int top), .fz (.int way), .own (.lst (ns.map .int)), .fz (.int at_), .un, .fz (.int x)], [.own s3.d, .fz (.int n), .fz (.int top), .fz (.int way), .own (.lst (ns.map .int)), .fz (.int at_), .un, .fz (.int x)], .fz (.int x), ?_, rfl, rfl⟩, fun hp => rfl⟩
        · clear e3
          unfold mt__law_asked_2
          walk_at "dl"
        · clear e3
          unfold me__law_asked_1
          walk_at "dl") (by rw [sizeLine_eq]; simp; omega)
      have ef : ((ns.map D.int).filter (fun d => match d with | .int i => decide (0 ≤ i) | _ => false)).map id = (ns.filter fun i => decide (0 ≤ i)).map .int := by
        rw [List.map_id, List.filter_map]
        rfl
      rw [ef, List.nil_append] at el
      clear ef
      obtain ⟨sm, hsm⟩ : ∃ t, (ns.filter fun i => decide (0 ≤ i)).sum = t := ⟨_, rfl⟩
      have hix : ixN ns.length at_ = some at_.toNat := ixN_of a0 (by omega)
      have hset : ∀ (ms : List Int) (y : Int), (ms.map D.int).set at_.toNat (.int y) = (ms.set at_.toNat y).map .int := fun ms y => by rw [List.map_set]
      obtain ⟨b, s4, h4, e4⟩ := rare_eq s3 h3 2 (manyOk_small (by decide) (by decide))
      have hm : 0 ≤ (at_ + 1) % (n : Int) ∧ (at_ + 1) % (n : Int) < n := ⟨Int.emod_nonneg _ (by omega), Int.emod_lt_of_pos _ (by omega)⟩
      have hmo : modOk (at_ + 1) (n : Int) = true := modOk_r (by omega)
      have g1 := getI (fo := ns.set at_.toNat sm) (k := at_) a0 (by rw [List.length_set]; omega)
      have g2 := getI (fo := ns.set at_.toNat sm) (k := (at_ + 1) % (n : Int)) hm.1 (by rw [List.length_set]; omega)
      generalize (ns.set at_.toNat sm).getD at_.toNat 0 = y1 at g1
      generalize (ns.set at_.toNat sm).getD ((at_ + 1) % (n : Int)).toNat 0 = y2 at g2
      have hix2 : ixN (ns.set at_.toNat sm).length at_ = some at_.toNat := ixN_of a0 (by rw [List.length_set]; omega)
      unfold Sto.d at e3 e4 el
      subst c2
      clear hm a1 a2 a0
      rw [l2] at hix
      cases b
      · refine ⟨s4, ns.set at_.toNat sm, h4, by rw [List.length_set]; omega, by rw [List.length_set]; omega, ?_⟩
        unfold st__law_asked_4 st__law_asked_5 Sto.d
        walk_at "dl"
      · refine ⟨s4, (ns.set at_.toNat sm).set at_.toNat (if y2 < y1 then y2 else y1), h4, by rw [List.length_set, List.length_set]; omega, by rw [List.length_set, List.length_set]; omega, ?_⟩
        unfold st__law_asked_4 st__law_asked_5 Sto.d
        walk_at "dl"
    · refine ⟨s2, ns, h2, by omega, by omega, ?_⟩
      unfold st__law_asked_4 st__law_asked_5 Sto.d
      walk_at "dl"
  · refine ⟨s2, ns, h2, by omega, by omega, ?_⟩
    unfold st__law_asked_4 st__law_asked_5 Sto.d
    walk_at "dl"

/-! ### the plain law -/
def kf : Nat → List Int → List (Int × Int)
  | _, [] => []
  | k, p :: ps => if 0 ≤ p then (p, (k : Int)) :: kf (k + 1) ps else kf (k + 1) ps
theorem kf_app : ∀ (a b : List Int) (k : Nat), kf k (a ++ b) = kf k a ++ kf (k + a.length) b
  | [], b, k => by simp [kf]
  | p :: a, b, k => by
    simp only [List.cons_append, kf, List.length_cons]
    rw [kf_app a b (k + 1), show k + 1 + a.length = k + (a.length + 1) by omega]
    split <;> simp
theorem kf_mem : ∀ {ps : List Int} {k : Nat} {q : Int × Int}, q ∈ kf k ps → ∃ i : Nat, ps[i]? = some q.1 ∧ q.2 = ((k + i : Nat) : Int) ∧ 0 ≤ q.1
  | [], k, q, h => by simp [kf] at h
  | p :: ps, k, q, h => by
    unfold kf at h
    split at h
    · rename_i hp
      rcases List.mem_cons.mp h with rfl | h
      · exact ⟨0, rfl, rfl, hp⟩
      · obtain ⟨i, h1, h2, h3⟩ := kf_mem h
        exact ⟨i + 1, h1, by rw [h2]; congr 1; omega, h3⟩
    · obtain ⟨i, h1, h2, h3⟩ := kf_mem h
      exact ⟨i + 1, h1, by rw [h2]; congr 1; omega, h3⟩
theorem kf_inc : ∀ (ps : List Int) (k : Nat), (kf k ps).Pairwise fun a b => a.2 < b.2
  | [], k => List.Pairwise.nil
  | p :: ps, k => by
    unfold kf
    split
    · refine List.pairwise_cons.mpr ⟨fun q hq => ?_, kf_inc ps (k + 1)⟩
      obtain ⟨i, _, h2, _⟩ := kf_mem hq
      rw [h2]
      simp only
      omega
    · exact kf_inc ps (k + 1)
theorem kf_len : ∀ (ps : List Int) (k : Nat), (kf k ps).length ≤ ps.length
  | [], k => Nat.le_refl _
  | p :: ps, k => by
    have := kf_len ps (k + 1)
    unfold kf
    split <;> simp <;> omega
def stepB (m : Option (Int × Int)) (q : Int × Int) : Option (Int × Int) := match m with
  | none => some q
  | some b => if q.1 < b.1 then some q else some b
def best (m : Option (Int × Int)) (l : List (Int × Int)) : Option (Int × Int) := l.foldl stepB m
theorem best_some : ∀ {l : List (Int × Int)} {b0 : Int × Int}, (l.Pairwise fun a b => a.2 < b.2) → (∀ q ∈ l, b0.2 < q.2) → ∃ b, best (some b0) l = some b ∧ (b = b0 ∨ b ∈ l) ∧ leP b b0 ∧ ∀ q ∈ l, leP b q
  | [], b0, _, _ => ⟨b0, rfl, .inl rfl, by unfold leP; omega, fun q hq => (by cases hq)⟩
  | q :: l, b0, hp, h0 => by
    obtain ⟨hp1, hp2⟩ := List.pairwise_cons.mp hp
    have hq0 := h0 q List.mem_cons_self
    by_cases h : q.1 < b0.1
    · obtain ⟨b, e, hm, h1, h2⟩ := best_some (l := l) (b0 := q) hp2 hp1
      refine ⟨b, ?_, .inr ?_, ?_, fun x hx => ?_⟩
      · show best (if q.1 < b0.1 then some q else some b0) l = _
        rw [if_pos h]; exact e
      · rcases hm with rfl | hm
        · exact List.mem_cons_self
        · exact List.mem_cons_of_mem _ hm
      · unfold leP at h1 ⊢; omega
      · rcases List.mem_cons.mp hx with rfl | hx
        · exact h1
        · exact h2 x hx
    · obtain ⟨b, e, hm, h1, h2⟩ := best_some (l := l) (b0 := b0) hp2 fun x hx => h0 x (List.mem_cons_of_mem _ hx)
      refine ⟨b, ?_, hm.imp id (List.mem_cons_of_mem _), h1, fun x hx => ?_⟩
      · show best (if q.1 < b0.1 then some q else some b0) l = _
        rw [if_neg h]; exact e
      · rcases List.mem_cons.mp hx with rfl | hx
        · unfold leP at h1 ⊢; omega
        · exact h2 x hx
theorem best_head {l : List (Int × Int)} (hp : l.Pairwise fun a b => a.2 < b.2) : best none l = (sortP l).head? := by
  cases l with
  | nil => rfl
  | cons q l =>
    obtain ⟨hp1, hp2⟩ := List.pairwise_cons.mp hp
    obtain ⟨b, e, hm, h1, h2⟩ := best_some (l := l) (b0 := q) hp2 hp1
    have hb : b ∈ q :: l := hm.elim (fun z => z ▸ List.mem_cons_self) (List.mem_cons_of_mem _)
    have hall : ∀ x ∈ q :: l, leP b x := fun x hx => (List.mem_cons.mp hx).elim (fun z => z ▸ h1) (h2 x)
    show best (some q) l = _
    rw [e]
    have hperm := sortP_perm (q :: l)
    have hs := sortP_le (q :: l)
    cases es : sortP (q :: l) with
    | nil => rw [es] at hperm; have := hperm.length_eq; simp at this
    | cons x t =>
      rw [es] at hperm hs
      obtain ⟨k1, k2⟩ := List.pairwise_cons.mp hs
      have a1 := hall x (hperm.mem_iff.mp List.mem_cons_self)
      have a2 : leP x b := by
        rcases List.mem_cons.mp (hperm.mem_iff.mpr hb) with z | z
        · rw [z]; unfold leP; omega
        · exact k1 b z
      simp only [List.head?_cons, Option.some.injEq]
      obtain ⟨b1, b2⟩ := b
      obtain ⟨x1, x2⟩ := x
      unfold leP at a1 a2
      simp only [Prod.mk.injEq]
      simp only at a1 a2
      omega
def encB : Option (Int × Int) → Int
  | none => -1
  | some b => b.2
def totS (S : List (Int × Int)) (i : Nat) : Int := ((S.take i).map (·.1)).sum
def topS (S : List (Int × Int)) (i : Nat) : Int := (S.take i).foldl (fun t q => if q.2 > t then q.2 else t) (-1)
theorem take_succ' {α : Type} {l : List α} {i : Nat} {x : α} (h : l[i]? = some x) : l.take (i + 1) = l.take i ++ [x] := by
  rw [List.take_succ, h]
  rfl
theorem totS_succ {S : List (Int × Int)} {i : Nat} {q : Int × Int} (h : S[i]? = some q) : totS S (i + 1) = totS S i + q.1 := by
  unfold totS
  rw [take_succ' h]
  simp
theorem topS_succ {S : List (Int × Int)} {i : Nat} {q : Int × Int} (h : S[i]? = some q) : topS S (i + 1) = if q.2 > topS S i then q.2 else topS S i := by
  unfold topS
  rw [take_succ' h, List.foldl_append]
  rfl
def condB (S : List (Int × Int)) (many : Nat) : Bool := match S[many]? with
  | some q => decide (totS S many < q.1) || (decide (totS S many = q.1) && decide (topS S many < q.2))
  | none => false
def sizesS (S : List (Int × Int)) : Nat → List Int
  | 0 => []
  | i + 1 => if condB S (i + 1) = true then sizesS S i ++ [((i + 1 : Nat) : Int)] else sizesS S i
theorem sizesS_len (S : List (Int × Int)) : ∀ i, (sizesS S i).length ≤ i
  | 0 => Nat.le_refl _
  | i + 1 => by
    have := sizesS_len S i
    unfold sizesS
    split <;> simp <;> omega
def lastZ (l : List Int) : Int := (0 :: l).getLast (by simp)
theorem drop_filter {S : List (Int × Int)} (hn : (S.map (·.2)).Nodup) : ∀ i, S.filter (fun q => decide (q.2 ∉ (S.take i).map (·.2))) = S.drop i := by
  intro i
  have e : S = S.take i ++ S.drop i := (List.take_append_drop i S).symm
  have hn' : ((S.take i ++ S.drop i).map (·.2)).Nodup := by rw [← e]; exact hn
  rw [List.map_append] at hn'
  have hd := (List.nodup_append.mp hn').2.2
  conv => lhs; rw [e]
  rw [show (S.take i ++ S.drop i).take i = S.take i by rw [← e]]
  rw [List.filter_append]
  have h1 : (S.take i).filter (fun q => decide (q.2 ∉ (S.take i).map (·.2))) = [] := List.filter_eq_nil_iff.mpr fun q hq => by
    simp only [decide_eq_true_eq]
    exact fun z => z (List.mem_map.mpr ⟨q, hq, rfl⟩)
  have h2 : (S.drop i).filter (fun q => decide (q.2 ∉ (S.take i).map (·.2))) = S.drop i := List.filter_eq_self.mpr fun q hq => by
    simp only [decide_eq_true_eq]
    exact fun z => hd _ z _ (List.mem_map_of_mem hq) rfl
  rw [h1, h2, List.nil_append]
theorem sortS_nodup (ns : List Int) : ((sortP (kf 0 ns)).map (·.2)).Nodup := by
  have h : ((kf 0 ns).map (·.2)).Nodup := by
    refine List.pairwise_map.mpr (List.Pairwise.imp (fun {a b} h => ?_) (kf_inc ns 0))
    omega
  exact (((sortP_perm (kf 0 ns)).map (·.2)).nodup_iff).mpr h
theorem next_best (ns : List Int) (i : Nat) : encB (best none ((kf 0 ns).filter fun q => decide (q.2 ∉ ((sortP (kf 0 ns)).take i).map (·.2)))) = encB ((sortP (kf 0 ns))[i]?) := by
  rw [best_head ((kf_inc ns 0).filter _)]
  have : sortP ((kf 0 ns).filter fun q => decide (q.2 ∉ ((sortP (kf 0 ns)).take i).map (·.2))) = (sortP (kf 0 ns)).drop i := by
    rw [← drop_filter (sortS_nodup ns) i]
    refine sortP_uniq ?_ (sortP_le _) ((sortP_le _).filter _)
    exact (sortP_perm _).trans ((sortP_perm (kf 0 ns)).symm.filter _)
  rw [this, List.head?_drop]
theorem fSortedIP_pairs (ps : List (Int × Int)) : fSortedIP [.lst (ps.map prD)] = some (.newL ((sortP ps).map prD)) := by
  cases ps with
  | nil => simp [fSortedIP, intsOf, sortI, sortP]
  | cons p ps =>
    have : intsOf ((p :: ps).map prD) = none := rfl
    unfold fSortedIP
    simp only [this, pairsOf_map, Option.map_some]
theorem max_ite : ∀ (l : List Int) (a : Int), l.foldl max a = l.foldl (fun t q => if q > t then q else t) a
  | [], a => rfl
  | q :: l, a => by
    simp only [List.foldl_cons]
    rw [max_ite l]
    congr 1
    simp only [Int.max_def]
    split <;> split <;> omega
theorem max_top {S : List (Int × Int)} {i : Nat} (h0 : 0 < i) (hi : i ≤ S.length) (hp : ∀ q ∈ S, 0 ≤ q.2) : ((S.take i).map (·.2)).max? = some (topS S i) := by
  cases e : S.take i with
  | nil => have := congrArg List.length e; rw [List.length_take, List.length_nil] at this; omega
  | cons q l =>
    unfold topS
    rw [e]
    have hq : 0 ≤ q.2 := hp q (List.mem_of_mem_take (e ▸ List.mem_cons_self))
    simp only [List.map_cons, List.max?_cons', List.foldl_cons]
    rw [max_ite, if_pos (by omega), List.foldl_map]

def lt (d : D) (ns : List Int) : Prop := d = .lst (ns.map .int) ∨ d = .tup (ns.map .int)
theorem lt_it {d : D} {ns : List Int} (h : lt d ns) : itD d = some (ns.map .int) := by rcases h with rfl | rfl <;> rfl
theorem lt_ix {d : D} {ns : List Int} (h : lt d ns) {i : Int} {x : Int} (h2 : atI (ns.map D.int) i = some (.int x)) : fIx d (.int i) = some (.imm (.int x)) := by
  rcases h with rfl | rfl <;> (unfold fIx; simp only [h2, Option.map_some])
theorem enum_filter : ∀ (ns : List Int) (k : Nat), ((enumD k (ns.map .int)).filter (fun d => match d with | .tup [.int _, .int x] => decide (0 ≤ x) | _ => false)).map (fun d => match d with | .tup [.int k, .int x] => D.tup [.int x, .int k] | d => d) = (kf k ns).map prD
  | [], k => rfl
  | x :: ns, k => by
    have ih := enum_filter ns (k + 1)
    simp only [List.map_cons, enumD, kf]
    by_cases h : 0 ≤ x
    · rw [List.filter_cons_of_pos (by simpa using h), if_pos h, List.map_cons, List.map_cons, ih]
      rfl
    · rw [List.filter_cons_of_neg (by simpa using h), if_neg h, ih]
theorem enum_mem : ∀ {ns : List Int} {k : Nat} {d : D}, d ∈ enumD k (ns.map .int) → ∃ (i : Nat) (x : Int), d = .tup [.int i, .int x]
  | [], k, d, h => by cases h
  | x :: ns, k, d, h => by
    simp only [List.map_cons, enumD] at h
    rcases List.mem_cons.mp h with rfl | h
    · exact ⟨k, x, rfl⟩
    · exact enum_mem h
theorem keys_eq {d : D} {ns : List Int} (hd : lt d ns) (hz : ns.length ≤ 100000) : g_keys_in [.fz d] = some (.ok (.own (.lst ((sortP (kf 0 ns)).map prD))) [.un]) := by
  have hi := lt_it hd
  have el := lcLoop_filter (ns := [1, 2]) (g := gTupD 2 (gsCons (sto 1) (gsCons (sto 2) gsNil))) (t := mt_keys_in_1) (e := me_keys_in_0) (p := fun d => match d with | .tup [.int _, .int x] => decide (0 ≤ x) | _ => false) (F := fun d => match d with | .tup [.int k, .int x] => D.tup [.int x, .int k] | d => d) (ρ := [.fz d, .un, .un]) (ds := enumD 0 (ns.map .int)) (acc := []) (fun e he => by
    obtain ⟨i, x, rfl⟩ := enum_mem he
    refine ⟨[.fz d, .fz (.int i), .fz (.int x)], [.fz d, .fz (.int i), .fz (.int x)], rfl, ?_, fun hp => ⟨[.fz d, .fz (.int i), .fz (.int x)], [.fz d, .fz (.int i), .fz (.int x)], .fz (.tup [.int x, .int i]), ?_, rfl, rfl⟩, fun hp => rfl⟩
    · clear hd hi
      unfold mt_keys_in_1
      walk_at "dl"
    · clear hd hi hp
      unfold me_keys_in_0
      walk_at "dl") (by rw [sizeLine_eq, enumD_len]; simp; omega)
  rw [enum_filter, List.nil_append] at el
  have es := fSortedIP_pairs (kf 0 ns)
  generalize (kf 0 ns).map prD = K at el es
  generalize (sortP (kf 0 ns)).map prD = Z at es
  show fin0 _ (m_keys_in [.fz d, .un, .un]) = _
  unfold fSortedIP at es
  unfold m_keys_in
  rcases hd with rfl | rfl
  · walk_at "dl"
  · walk_at "dl"
theorem best_in {l : List (Int × Int)} (hp : l.Pairwise fun a b => a.2 < b.2) {b : Int × Int} (h : best none l = some b) : b ∈ l := by
  cases l with
  | nil => cases h
  | cons q l =>
    obtain ⟨hp1, hp2⟩ := List.pairwise_cons.mp hp
    obtain ⟨b', e, hm, _⟩ := best_some (l := l) (b0 := q) hp2 hp1
    have e : best none (q :: l) = some b' := e
    rw [h] at e
    cases e
    exact hm.elim (fun z => z ▸ List.mem_cons_self) (List.mem_cons_of_mem _)
theorem best_at {l : List (Int × Int)} {m : Option (Int × Int)} {q : Int × Int} : best m (l ++ [q]) = stepB (best m l) q := by
  unfold best
  rw [List.foldl_append]
  rfl
theorem enum_get {ns : List Int} {i : Nat} {d : D} (h : (enumD 0 (ns.map .int))[i]? = some d) : ∃ x, ns[i]? = some x ∧ d = .tup [.int i, .int x] := by
  rw [enumD_get, List.getElem?_map] at h
  cases hx : ns[i]? with
  | none => rw [hx] at h; cases h
  | some x =>
    rw [hx] at h
    simp only [Option.map_some, Option.some.injEq] at h
    refine ⟨x, rfl, ?_⟩
    rw [← h, Nat.zero_add]
theorem least_step {d : D} {ns : List Int} (hd : lt d ns) {i : Nat} {x : Int} (hx : ns[i]? = some x) (a b : SV) : mb_least_name_0 [.fz d, .fz (.int (encB (best none (kf 0 (ns.take i))))), .fz (.int i), .fz (.int x)] = some (.nx [.fz d, .fz (.int (encB (best none (kf 0 (ns.take (i + 1)))))), .fz (.int i), .fz (.int x)]) := by
  have hl : i < ns.length := (List.getElem?_eq_some_iff.mp hx).1
  have e1 : kf 0 (ns.take (i + 1)) = kf 0 (ns.take i) ++ kf i [x] := by
    rw [take_succ' hx, kf_app]
    congr 2
    simp; omega
  rw [e1]
  by_cases h0 : 0 ≤ x
  · have e2 : kf i [x] = [(x, (i : Int))] := by unfold kf; rw [if_pos h0]; rfl
    rw [e2, best_at]
    cases hm : best none (kf 0 (ns.take i)) with
    | none =>
      clear hd hx e1 e2 hm
      unfold mb_least_name_0 encB stepB
      walk_at "dl"
    | some b =>
      have hb := best_in (kf_inc _ _) hm
      obtain ⟨j, hj, hj2, hj3⟩ := kf_mem hb
      have hj' : ns[j]? = some b.1 := by
        rw [List.getElem?_take] at hj
        split at hj
        · exact hj
        · cases hj
      have ha : atI (ns.map D.int) b.2 = some (.int b.1) := by
        rw [hj2, atI_of (by omega), List.getElem?_map, show ((0 + j : Nat) : Int).toNat = j by omega, hj']
        rfl
      have hb0 : ¬ b.2 < 0 := by omega
      clear hx e1 e2 hm hb hj hj2 hj3 hj'
      rcases hd with rfl | rfl
      · by_cases hc : x < b.1
        · unfold mb_least_name_0 encB stepB
          walk_at "dl"
        · unfold mb_least_name_0 encB stepB
          walk_at "dl"
      · by_cases hc : x < b.1
        · unfold mb_least_name_0 encB stepB
          walk_at "dl"
        · unfold mb_least_name_0 encB stepB
          walk_at "dl"
  · have e2 : kf i [x] = [] := by unfold kf; rw [if_neg h0]; rfl
    rw [e2, List.append_nil]
    clear hd hx e1 e2
    generalize encB _ = z
    unfold mb_least_name_0
    walk_at "dl"
theorem least_eq {d : D} {ns : List Int} (hd : lt d ns) : g_least_name [.fz d] = some (.ok (.fz (.int (encB (sortP (kf 0 ns)).head?))) [.un]) := by
  obtain ⟨ρ', e1, a, b, rfl⟩ := mLoop_ix (g := gTupD 2 (gsCons (sto 2) (gsCons (sto 3) gsNil))) (b := mb_least_name_0) (ds := enumD 0 (ns.map .int)) (k := 0) (fun i ρ => ∃ a b, ρ = [.fz d, .fz (.int (encB (best none (kf 0 (ns.take i))))), a, b]) (ρ := [.fz d, .fz (.int (-1)), .un, .un]) (fun i e ρ he hi => by
    obtain ⟨a, b, rfl⟩ := hi
    obtain ⟨x, hx, rfl⟩ := enum_get he
    rw [Nat.zero_add]
    exact ⟨_, _, rfl, least_step hd hx a b, _, _, rfl⟩) ⟨.un, .un, rfl⟩
  rw [Nat.zero_add, enumD_len, List.length_map, List.take_length, best_head (kf_inc ns 0)] at e1
  generalize encB _ = z at e1 ⊢
  show fin0 _ (m_least_name [.fz d, .un, .un, .un]) = _
  unfold m_least_name
  rcases hd with rfl | rfl
  · walk_at "dl"
  · walk_at "dl"
theorem lexLt2 {a b c d : Int} : HT.lexLt [a, b] [c, d] = (decide (a < c) || (decide (a = c) && decide (b < d))) := by
  show (if a = c then (if b = d then false else decide (b < d)) else decide (a < c)) = _
  by_cases h : a = c
  · subst h
    by_cases h2 : b = d
    · subst h2; simp
    · simp [h2]
  · simp [h]
theorem sizes_eq (S : List (Int × Int)) (hz : S.length ≤ 100000) : g_batch_sizes [.fz (.lst (S.map prD))] = some (.ok (.own (.lst ((sizesS S (S.length - 1)).map .int))) [.un]) := by
  have hg1 : rgOk 1 = true := by decide
  have hg : rgOk (S.length : Int) = true := rgOk_of (by omega) (by omega)
  obtain ⟨ρ', e1, a, b, c, rfl⟩ := mLoop_ix (g := sto 4) (b := mb_batch_sizes_0) (ds := rgD 1 ((S.length : Int) - 1).toNat) (k := 0) (fun i ρ => ∃ a b c, ρ = [.fz (.lst (S.map prD)), .own (.lst ((sizesS S i).map .int)), .fz (.int (totS S i)), .fz (.int (topS S i)), a, b, c]) (ρ := [.fz (.lst (S.map prD)), .own (.lst []), .fz (.int 0), .fz (.int (-1)), .un, .un, .un]) (fun i e ρ he hi => by
    obtain ⟨a, b, c, rfl⟩ := hi
    rw [Nat.zero_add]
    have hl : i < ((S.length : Int) - 1).toNat := by
      have := (List.getElem?_eq_some_iff.mp he).1
      simpa [rgD] using this
    rw [rgD_get, if_pos hl] at he
    cases he
    have q1 : S[i]? = some S[i] := by simp
    have q2 : S[i + 1]? = some S[i + 1] := by simp
    generalize S[i] = p at q1
    generalize S[i + 1] = q at q2
    have h1 : atI (S.map prD) (1 + (i : Int) - 1) = some (.tup [.int p.1, .int p.2]) := by
      rw [show (1 + (i : Int) - 1) = (i : Int) by omega, atI_of (by omega), List.getElem?_map, show ((i : Nat) : Int).toNat = i by omega, q1]; rfl
    have h2 : atI (S.map prD) (1 + (i : Int)) = some (.tup [.int q.1, .int q.2]) := by
      rw [atI_of (by omega), List.getElem?_map, show (1 + (i : Int)).toNat = i + 1 by omega, q2]; rfl
    have h3 := totS_succ q1
    have h4 := topS_succ q1
    have h5 : condB S (i + 1) = (decide (totS S (i + 1) < q.1) || (decide (totS S (i + 1) = q.1) && decide (topS S (i + 1) < q.2))) := by unfold condB; rw [q2]
    have h6 : (sizesS S i).length < sizeLine := by have := sizesS_len S i; rw [sizeLine_eq]; omega
    have h7 : sizesS S (i + 1) = if condB S (i + 1) = true then sizesS S i ++ [(1 + (i : Int))] else sizesS S i := by
      rw [sizesS, show ((i + 1 : Nat) : Int) = 1 + (i : Int) by omega]
    have h8 : intsOf [.int (totS S (i + 1)), .int (topS S (i + 1))] = some [totS S (i + 1), topS S (i + 1)] := rfl
    have h9 : intsOf [.int q.1, .int q.2] = some [q.1, q.2] := rfl
    have h10 := lexLt2 (a := totS S (i + 1)) (b := topS S (i + 1)) (c := q.1) (d := q.2)
    rw [← h5] at h10
    have s0 : sb_batch_sizes_0_0 [.fz (.lst (S.map prD)), .own (.lst ((sizesS S i).map .int)), .fz (.int (totS S i)), .fz (.int (topS S i)), .fz (.int (1 + (i : Int))), b, c] = some (.nx [.fz (.lst (S.map prD)), .own (.lst ((sizesS S i).map .int)), .fz (.int (totS S i)), .fz (.int (topS S i)), .fz (.int (1 + (i : Int))), .fz (.int p.1), .fz (.int p.2)]) := by
      clear h2 h3 h4 h5 h6 h7 h8 h9 h10 q1 q2 hg hg1
      unfold sb_batch_sizes_0_0
      walk_at "dl"
    have s1 : sb_batch_sizes_0_1 [.fz (.lst (S.map prD)), .own (.lst ((sizesS S i).map .int)), .fz (.int (totS S i)), .fz (.int (topS S i)), .fz (.int (1 + (i : Int))), .fz (.int p.1), .fz (.int p.2)] = some (.nx [.fz (.lst (S.map prD)), .own (.lst ((sizesS S i).map .int)), .fz (.int (totS S (i + 1))), .fz (.int (topS S i)), .fz (.int (1 + (i : Int))), .fz (.int p.1), .fz (.int p.2)]) := by
      rw [h3]
      clear h1 h2 h3 h4 h5 h6 h7 h8 h9 h10 q1 q2 hg hg1 s0
      unfold sb_batch_sizes_0_1
      walk_at "dl"
    have s2 : sb_batch_sizes_0_2 [.fz (.lst (S.map prD)), .own (.lst ((sizesS S i).map .int)), .fz (.int (totS S (i + 1))), .fz (.int (topS S i)), .fz (.int (1 + (i : Int))), .fz (.int p.1), .fz (.int p.2)] = some (.nx [.fz (.lst (S.map prD)), .own (.lst ((sizesS S i).map .int)), .fz (.int (totS S (i + 1))), .fz (.int (topS S (i + 1))), .fz (.int (1 + (i : Int))), .fz (.int p.1), .fz (.int p.2)]) := by
      rw [h4]
      clear h1 h2 h3 h4 h5 h6 h7 h8 h9 h10 q1 q2 hg hg1 s0 s1
      unfold sb_batch_sizes_0_2
      walk_at "dl"
    have s3 : sb_batch_sizes_0_3 [.fz (.lst (S.map prD)), .own (.lst ((sizesS S i).map .int)), .fz (.int (totS S (i + 1))), .fz (.int (topS S (i + 1))), .fz (.int (1 + (i : Int))), .fz (.int p.1), .fz (.int p.2)] = some (.nx [.fz (.lst (S.map prD)), .own (.lst ((sizesS S (i + 1)).map .int)), .fz (.int (totS S (i + 1))), .fz (.int (topS S (i + 1))), .fz (.int (1 + (i : Int))), .fz (.int p.1), .fz (.int p.2)]) := by
      rw [h7]
      clear h1 h3 h4 h5 h7 q1 q2 hg hg1 s0 s1 s2
      generalize totS S (i + 1) = tt at *
      generalize topS S (i + 1) = pp at *
      by_cases hc : condB S (i + 1) = true
      · rw [if_pos hc, List.map_append, List.map_cons, List.map_nil]
        rw [hc] at h10
        clear hc
        unfold sb_batch_sizes_0_3
        walk_at "dl"
      · rw [if_neg hc]
        rw [Bool.not_eq_true] at hc
        rw [hc] at h10
        clear hc
        unfold sb_batch_sizes_0_3
        walk_at "dl"
    refine ⟨[.fz (.lst (S.map prD)), .own (.lst ((sizesS S i).map .int)), .fz (.int (totS S i)), .fz (.int (topS S i)), .fz (.int (1 + (i : Int))), b, c], _, rfl, ?_, .fz (.int (1 + (i : Int))), .fz (.int p.1), .fz (.int p.2), rfl⟩
    rw [mb_batch_sizes_0_eq, mSeq_nx s0, mSeq_nx s1, mSeq_nx s2, s3]) ⟨.un, .un, .un, rfl⟩
  rw [Nat.zero_add, show (rgD 1 ((S.length : Int) - 1).toNat).length = S.length - 1 by simp [rgD]] at e1
  generalize (sizesS S (S.length - 1)).map D.int = out at e1 ⊢
  generalize totS S (S.length - 1) = x1 at e1
  generalize topS S (S.length - 1) = x2 at e1
  have hl : (S.map prD).length = S.length := List.length_map _
  generalize S.map prD = SS at e1 hl ⊢
  generalize hn : S.length = n at *
  show fin0 _ (m_batch_sizes [.fz (.lst SS), .un, .un, .un, .un, .un, .un]) = _
  clear hn
  unfold m_batch_sizes
  walk_at "dl"
theorem lastZ_nil : lastZ [] = 0 := rfl
theorem lastZ_at {l : List Int} (h : 0 < l.length) : atI (l.map D.int) (-1) = some (.int (lastZ l)) := by
  rw [atI_last (by simpa using h)]
  simp only [List.getElem_map, List.length_map, Option.some.injEq, D.int.injEq]
  unfold lastZ
  rw [List.getLast_cons (by intro z; rw [z] at h; simp at h), List.getLast_eq_getElem]
theorem pairs_flat (S : List (Int × Int)) : nolists (S.map prD) = true := by
  induction S with
  | nil => rfl
  | cons p S ih => simp only [List.map_cons, nolists, ih, prD, nolist, Bool.and_true]
theorem ints_flat (l : List Int) : nolists (l.map D.int) = true := by
  induction l with
  | nil => rfl
  | cons p S ih => simp only [List.map_cons, nolists, ih, nolist, Bool.and_true]
theorem widest_eq {d : D} {ns : List Int} (hd : lt d ns) (hz : ns.length ≤ 100000) : g_widest_batch [.fz d] = some (.ok (.fz (.int (lastZ (sizesS (sortP (kf 0 ns)) ((sortP (kf 0 ns)).length - 1))))) [.un]) := by
  have e1 := keys_eq hd hz
  have hl : (sortP (kf 0 ns)).length ≤ 100000 := by rw [(sortP_perm _).length_eq]; have := kf_len ns 0; omega
  have e2 := sizes_eq _ hl
  have f1 := pairs_flat (sortP (kf 0 ns))
  generalize sortP (kf 0 ns) = S at *
  generalize hL : sizesS S (S.length - 1) = L at *
  have f2 := ints_flat L
  generalize S.map prD = SS at *
  show fin0 _ (m_widest_batch [.fz d, .un]) = _
  clear hL hl hd hz
  have a0 : st_widest_batch_0 [.fz d, .un] = some (.nx [.fz d, .own (.lst (L.map .int))]) := by
    unfold st_widest_batch_0
    walk_at "dl"
  rw [m_widest_batch_eq, mSeq_nx a0]
  clear a0 e1 e2 f1 f2
  by_cases h : L = []
  · subst h
    unfold st_widest_batch_1 lastZ
    walk_at "dl"
    rfl
  · have h0 : 0 < L.length := List.length_pos_iff.mpr h
    have h1 := lastZ_at h0
    have h2 : ¬ ((L.length : Int) = 0) := by omega
    generalize lastZ L = z at *
    clear h
    unfold st_widest_batch_1 st_widest_batch_2
    walk_at "dl"

theorem rg_filter (f : Int → Int) : ∀ (ns : List Int) (k : Nat), (∀ (i : Nat) (x : Int), ns[i]? = some x → f ((k + i : Nat) : Int) = x) → ((rgI k ns.length).filter fun j => decide (0 ≤ f j)).map (fun j => (f j, j)) = kf k ns
  | [], k, h => rfl
  | x :: ns, k, h => by
    have ih := rg_filter f ns (k + 1) fun i y hy => by
      have := h (i + 1) y (by simpa using hy)
      rw [show k + 1 + i = k + (i + 1) by omega]
      exact this
    have hx : f (k : Int) = x := h 0 x rfl
    rw [List.length_cons, rgI_succ]
    unfold kf
    rw [show ((k : Int) + 1) = ((k + 1 : Nat) : Int) by omega]
    by_cases h0 : 0 ≤ x
    · rw [List.filter_cons_of_pos (by rw [hx]; simpa using h0), if_pos h0, List.map_cons, ih, hx]
    · rw [List.filter_cons_of_neg (by rw [hx]; simpa using h0), if_neg h0, ih]
theorem rg_kf (ns : List Int) : ((rgI 0 ns.length).filter fun j => decide (0 ≤ ns.getD j.toNat 0)).map (fun j => (ns.getD j.toNat 0, j)) = kf 0 ns :=
  rg_filter (fun j => ns.getD j.toNat 0) ns 0 fun i x h => by
    simp only [Nat.zero_add, Int.toNat_natCast, List.getD_eq_getElem?_getD, h, Option.getD_some]
theorem kf_at {ns : List Int} {q : Int × Int} (h : q ∈ kf 0 ns) : atI (ns.map D.int) q.2 = some (.int q.1) ∧ 0 ≤ q.2 := by
  obtain ⟨i, h1, h2, h3⟩ := kf_mem h
  rw [Nat.zero_add] at h2
  refine ⟨?_, by omega⟩
  rw [h2, atI_of (by omega), List.getElem?_map, show ((i : Nat) : Int).toNat = i by omega, h1]
  rfl
theorem due_least_eq {ns : List Int} (hz : ns.length ≤ 100000) : g__law_due_least [.fz (.lst (ns.map .int))] = some (.ok (.fz (.int (encB (sortP (kf 0 ns)).head?))) [.un]) := by
  have hg : rgOk (ns.length : Int) = true := rgOk_of (by omega) (by omega)
  have el := lcLoop_filter (ns := [2]) (g := sto 2) (t := mt__law_due_least_1) (e := me__law_due_least_0) (p := fun d => match d with | .int k => decide (0 ≤ ns.getD k.toNat 0) | _ => false) (F := fun d => match d with | .int k => .tup [.int (ns.getD k.toNat 0), .int k] | d => d) (ρ := [.fz (.lst (ns.map .int)), .un, .un]) (ds := rgD 0 ns.length) (acc := []) (fun d hd => by
    rw [rgD_map] at hd
    obtain ⟨k, hk, rfl⟩ := List.mem_map.mp hd
    have hk2 := mem_rgI.mp hk
    have ga := getI (fo := ns) (k := k) (by omega) (by omega)
    refine ⟨[.fz (.lst (ns.map .int)), .un, .fz (.int k)], [.fz (.lst (ns.map .int)), .un, .fz (.int k)], rfl, ?_, fun hp => ⟨[.fz (.lst (ns.map .int)), .un, .fz (.int k)], [.fz (.lst (ns.map .int)), .un, .fz (.int k)], .fz (.tup [.int (ns.getD k.toNat 0), .int k]), ?_, rfl, rfl⟩, fun hp => rfl⟩
    · show _ = some (Res.ok (decide (0 ≤ ns.getD k.toNat 0)) _)
      generalize ns.getD k.toNat 0 = y at ga ⊢
      clear hg
      unfold mt__law_due_least_1
      walk_at "dl"
    · clear hp
      generalize ns.getD k.toNat 0 = y at ga ⊢
      clear hg
      unfold me__law_due_least_0
      walk_at "dl") (by rw [sizeLine_eq]; simp [rgD]; omega)
  have ef : ((rgD 0 ns.length).filter (fun d => match d with | .int k => decide (0 ≤ ns.getD k.toNat 0) | _ => false)).map (fun d => match d with | .int k => D.tup [.int (ns.getD k.toNat 0), .int k] | d => d) = (kf 0 ns).map prD := by
    rw [← rg_kf, rgD_map, List.filter_map, List.map_map, List.map_map]
    rfl
  rw [ef, List.nil_append] at el
  have es := fSortedIP_pairs (kf 0 ns)
  clear ef
  unfold fSortedIP at es
  generalize (kf 0 ns).map prD = K at el es
  have a0 : st__law_due_least_0 [.fz (.lst (ns.map .int)), .un, .un] = some (.nx [.fz (.lst (ns.map .int)), .own (.lst ((sortP (kf 0 ns)).map prD)), .un]) := by
    generalize (sortP (kf 0 ns)).map prD = Z at es ⊢
    unfold st__law_due_least_0
    walk_at "dl"
  show fin0 _ (m__law_due_least [.fz (.lst (ns.map .int)), .un, .un]) = _
  rw [m__law_due_least_eq, mSeq_nx a0]
  clear a0 el es
  cases hS : sortP (kf 0 ns) with
  | nil =>
    clear hS
    unfold st__law_due_least_1 encB
    walk_at "dl"
    rfl
  | cons q l =>
    have h2 : ¬ (((l.map prD).length + 1 : Nat) : Int) = 0 := by omega
    have h3 : ¬ (((l.length + 1 : Nat) : Int) = 0) := by omega
    clear hS
    unfold st__law_due_least_1 st__law_due_least_2 encB
    simp only [List.map_cons, prD, List.head?_cons]
    walk_at "dl"
theorem inD_ints (k : Int) (row : List Int) : inD (.int k) (.lst (row.map .int)) = some (decide (k ∈ row)) := by
  have h1 : (row.map D.int).all flatD = true := by simp [flatD]
  show (if flatD (D.int k) = true ∧ (row.map D.int).all flatD = true then some ((row.map D.int).any fun e => eqF e (.int k)) else none) = _
  rw [if_pos ⟨rfl, h1⟩]
  congr 1
  rw [Bool.eq_iff_iff]
  simp only [List.any_eq_true, List.mem_map, decide_eq_true_eq]
  constructor
  · rintro ⟨_, ⟨x, hx, rfl⟩, e⟩
    have : x = k := by simpa [eqF] using e
    exact this ▸ hx
  · exact fun h => ⟨_, ⟨k, h, rfl⟩, by simp [eqF]⟩
def stepR (row : List Int) (m : Option (Int × Int)) (q : Int × Int) : Option (Int × Int) := if q.2 ∈ row then m else stepB m q
theorem wid_in {ns : List Int} {q : Int × Int} (hq : q ∈ kf 0 ns) {m : Option (Int × Int)} (hm : ∀ b, m = some b → b ∈ kf 0 ns) (row : List Int) (rs tn al mn ba to_ br : SV) :
    mb__law_due_widest_2 [.fz (.lst (ns.map .int)), .fz (.int q.2), rs, .own (.lst (row.map .int)), tn, .fz (.int (encB m)), al, mn, ba, to_, br] = some (.nx [.fz (.lst (ns.map .int)), .fz (.int q.2), rs, .own (.lst (row.map .int)), tn, .fz (.int (encB (stepR row m q))), al, mn, ba, to_, br]) := by
  have h1 := (kf_at hq).1
  have hin := inD_ints q.2 row
  unfold stepR
  by_cases hr : q.2 ∈ row
  · rw [if_pos hr]
    generalize encB m = z
    clear hq hm
    unfold mb__law_due_widest_2
    walk_at "dl"
  · rw [if_neg hr]
    cases m with
    | none =>
      clear hq hm
      unfold mb__law_due_widest_2 encB stepB
      walk_at "dl"
    | some b =>
      obtain ⟨h2, h3⟩ := kf_at (hm b rfl)
      have h4 : ¬ b.2 < 0 := by omega
      clear hq hm h3
      by_cases hc : q.1 < b.1
      · unfold mb__law_due_widest_2 encB stepB
        walk_at "dl"
      · unfold mb__law_due_widest_2 encB stepB
        walk_at "dl"
theorem foldR (row : List Int) : ∀ (l : List (Int × Int)) (m : Option (Int × Int)), l.foldl (stepR row) m = best m (l.filter fun q => decide (q.2 ∉ row))
  | [], m => rfl
  | q :: l, m => by
    rw [List.foldl_cons, foldR row l]
    by_cases h : q.2 ∈ row
    · rw [List.filter_cons_of_neg (by simpa using h)]
      unfold stepR
      rw [if_pos h]
    · rw [List.filter_cons_of_pos (by simpa using h)]
      unfold stepR
      rw [if_neg h]
      rfl
theorem foldR_in {ns : List Int} (row : List Int) : ∀ (l : List (Int × Int)) (m : Option (Int × Int)), (∀ q ∈ l, q ∈ kf 0 ns) → (∀ b, m = some b → b ∈ kf 0 ns) → ∀ b, l.foldl (stepR row) m = some b → b ∈ kf 0 ns
  | [], m, _, hm => hm
  | q :: l, m, hl, hm => by
    rw [List.foldl_cons]
    refine foldR_in row l _ (fun x hx => hl x (List.mem_cons_of_mem _ hx)) fun b hb => ?_
    unfold stepR at hb
    split at hb
    · exact hm b hb
    · unfold stepB at hb
      split at hb
      · cases hb; exact hl q List.mem_cons_self
      · split at hb
        · cases hb; exact hl q List.mem_cons_self
        · exact hm b hb
theorem wid_inner {ns : List Int} (row : List Int) (rs tn al mn ba to_ br : SV) (kk : SV) : ∃ kk', mLoop (sto 1) mb__law_due_widest_2 (((kf 0 ns).map (·.2)).map .int) [.fz (.lst (ns.map .int)), kk, rs, .own (.lst (row.map .int)), tn, .fz (.int (-1)), al, mn, ba, to_, br] =
    some (.nx [.fz (.lst (ns.map .int)), kk', rs, .own (.lst (row.map .int)), tn, .fz (.int (encB (best none ((kf 0 ns).filter fun q => decide (q.2 ∉ row))))), al, mn, ba, to_, br]) := by
  obtain ⟨ρ', e1, k', rfl⟩ := mLoop_ix (g := sto 1) (b := mb__law_due_widest_2) (ds := ((kf 0 ns).map (·.2)).map .int) (k := 0) (fun i ρ => ∃ kk, ρ = [.fz (.lst (ns.map .int)), kk, rs, .own (.lst (row.map .int)), tn, .fz (.int (encB (((kf 0 ns).take i).foldl (stepR row) none))), al, mn, ba, to_, br]) (ρ := [.fz (.lst (ns.map .int)), kk, rs, .own (.lst (row.map .int)), tn, .fz (.int (-1)), al, mn, ba, to_, br]) (fun i d ρ hd hi => by
    obtain ⟨kk, rfl⟩ := hi
    rw [Nat.zero_add]
    rw [List.getElem?_map, List.getElem?_map] at hd
    cases hq : (kf 0 ns)[i]? with
    | none => rw [hq] at hd; cases hd
    | some q =>
      rw [hq] at hd
      cases hd
      refine ⟨_, _, rfl, wid_in (List.mem_of_getElem? hq) (foldR_in row _ none (fun x hx => List.mem_of_mem_take hx) fun b hb => by cases hb) row rs tn al mn ba to_ br, .fz (.int q.2), ?_⟩
      rw [take_succ' hq, List.foldl_append]
      rfl) ⟨kk, rfl⟩
  refine ⟨k', ?_⟩
  rw [e1, Nat.zero_add, List.length_map, List.length_map, List.take_length, foldR]
theorem wid_turn {ns : List Int} (i : Nat) (hz : ns.length ≤ 100000) (kk rs tn be al mn ba to_ br : SV) (hrs : rs = .own (.lst (((kf 0 ns).map (·.2)).map .int)) ∨ rs = .fz (.lst (((kf 0 ns).map (·.2)).map .int))) :
    ∃ kk' be', mb__law_due_widest_3 [.fz (.lst (ns.map .int)), kk, rs, .own (.lst ((((sortP (kf 0 ns)).take i).map (·.2)).map .int)), tn, be, al, mn, ba, to_, br] =
    some (.nx [.fz (.lst (ns.map .int)), kk', .fz (.lst (((kf 0 ns).map (·.2)).map .int)), .own (.lst ((((sortP (kf 0 ns)).take (i + 1)).map (·.2)).map .int)), tn, be', al, mn, ba, to_, br]) := by
  obtain ⟨k1, e1⟩ := wid_inner (ns := ns) (((sortP (kf 0 ns)).take i).map (·.2)) (.fz (.lst (((kf 0 ns).map (·.2)).map .int))) tn al mn ba to_ br kk
  rw [next_best] at e1
  have hlen : (((sortP (kf 0 ns)).take i).map (·.2)).length < sizeLine := by
    rw [List.length_map, List.length_take, (sortP_perm _).length_eq, sizeLine_eq]
    have := kf_len ns 0
    omega
  have a01 : mSeq sb__law_due_widest_3_0 (mSeq sb__law_due_widest_3_1 sb__law_due_widest_3_2) [.fz (.lst (ns.map .int)), kk, rs, .own (.lst ((((sortP (kf 0 ns)).take i).map (·.2)).map .int)), tn, be, al, mn, ba, to_, br] =
      sb__law_due_widest_3_2 [.fz (.lst (ns.map .int)), k1, .fz (.lst (((kf 0 ns).map (·.2)).map .int)), .own (.lst ((((sortP (kf 0 ns)).take i).map (·.2)).map .int)), tn, .fz (.int (encB ((sortP (kf 0 ns))[i]?))), al, mn, ba, to_, br] := by
    clear hlen
    generalize (((sortP (kf 0 ns)).take i).map (·.2)).map D.int = RW at e1 ⊢
    generalize ((kf 0 ns).map (·.2)).map D.int = KS at e1 hrs ⊢
    generalize encB _ = z at e1 ⊢
    have b0 : sb__law_due_widest_3_0 [.fz (.lst (ns.map .int)), kk, rs, .own (.lst RW), tn, be, al, mn, ba, to_, br] = some (.nx [.fz (.lst (ns.map .int)), kk, rs, .own (.lst RW), tn, .fz (.int (-1)), al, mn, ba, to_, br]) := by
      clear e1 hrs
      unfold sb__law_due_widest_3_0
      walk_at "dl"
    have b1 : sb__law_due_widest_3_1 [.fz (.lst (ns.map .int)), kk, rs, .own (.lst RW), tn, .fz (.int (-1)), al, mn, ba, to_, br] = some (.nx [.fz (.lst (ns.map .int)), k1, .fz (.lst KS), .own (.lst RW), tn, .fz (.int z), al, mn, ba, to_, br]) := by
      clear b0
      unfold sb__law_due_widest_3_1
      rcases hrs with rfl | rfl
      · walk_at "dl"
      · walk_at "dl"
    rw [mSeq_nx b0, mSeq_nx b1]
  rw [mb__law_due_widest_3_eq, a01]
  clear a01 e1
  cases hS : (sortP (kf 0 ns))[i]? with
  | none =>
    have ht : (sortP (kf 0 ns)).take (i + 1) = (sortP (kf 0 ns)).take i := by
      rw [List.take_of_length_le (by have := List.getElem?_eq_none_iff.mp hS; omega), List.take_of_length_le (by have := List.getElem?_eq_none_iff.mp hS; omega)]
    rw [ht]
    refine ⟨k1, .fz (.int (-1)), ?_⟩
    clear hS ht hrs hlen
    unfold sb__law_due_widest_3_2 encB
    walk_at "dl"
  | some q =>
    have hq := (kf_at (ns := ns) ((sortP_perm _).mem_iff.mp (List.mem_of_getElem? hS))).2
    rw [take_succ' hS]
    refine ⟨k1, .fz (.int q.2), ?_⟩
    simp only [List.map_append, List.map_cons, List.map_nil]
    generalize ((sortP (kf 0 ns)).take i).map (·.2) = RW at hlen ⊢
    generalize (kf 0 ns).map (·.2) = KS
    clear hS hrs
    unfold sb__law_due_widest_3_2 encB
    walk_at "dl"
theorem wid_rest {ns : List Int} (hz : ns.length ≤ 100000) : st__law_due_widest_0 [.fz (.lst (ns.map .int)), .un, .un, .un, .un, .un, .un, .un, .un, .un, .un] = some (.nx [.fz (.lst (ns.map .int)), .un, .own (.lst (((kf 0 ns).map (·.2)).map .int)), .un, .un, .un, .un, .un, .un, .un, .un]) := by
  have hg : rgOk (ns.length : Int) = true := rgOk_of (by omega) (by omega)
  have el := lcLoop_filter (ns := [1]) (g := sto 1) (t := mt__law_due_widest_1) (e := me__law_due_widest_0) (p := fun d => match d with | .int k => decide (0 ≤ ns.getD k.toNat 0) | _ => false) (F := id) (ρ := [.fz (.lst (ns.map .int)), .un, .un, .un, .un, .un, .un, .un, .un, .un, .un]) (ds := rgD 0 ns.length) (acc := []) (fun d hd => by
    rw [rgD_map] at hd
    obtain ⟨k, hk, rfl⟩ := List.mem_map.mp hd
    have hk2 := mem_rgI.mp hk
    have ga := getI (fo := ns) (k := k) (by omega) (by omega)
    refine ⟨[.fz (.lst (ns.map .int)), .fz (.int k), .un, .un, .un, .un, .un, .un, .un, .un, .un], [.fz (.lst (ns.map .int)), .fz (.int k), .un, .un, .un, .un, .un, .un, .un, .un, .un], rfl, ?_, fun hp => ⟨[.fz (.lst (ns.map .int)), .fz (.int k), .un, .un, .un, .un, .un, .un, .un, .un, .un], [.fz (.lst (ns.map .int)), .fz (.int k), .un, .un, .un, .un, .un, .un, .un, .un, .un], .fz (.int k), ?_, rfl, rfl⟩, fun hp => rfl⟩
    · show _ = some (Res.ok (decide (0 ≤ ns.getD k.toNat 0)) _)
      generalize ns.getD k.toNat 0 = y at ga ⊢
      clear hg
      unfold mt__law_due_widest_1
      walk_at "dl"
    · clear hp ga hg
      unfold me__law_due_widest_0
      walk_at "dl") (by rw [sizeLine_eq]; simp [rgD]; omega)
  have ef : ((rgD 0 ns.length).filter (fun d => match d with | .int k => decide (0 ≤ ns.getD k.toNat 0) | _ => false)).map id = ((kf 0 ns).map (·.2)).map .int := by
    rw [← rg_kf, rgD_map, List.filter_map, List.map_id, List.map_map, List.map_map]
    rfl
  rw [ef, List.nil_append] at el
  clear ef
  generalize ((kf 0 ns).map (·.2)).map D.int = KS at el ⊢
  unfold st__law_due_widest_0
  walk_at "dl"
theorem wid_size {ns : List Int} {S : List (Int × Int)} (hS : sortP (kf 0 ns) = S) (hz : ns.length ≤ 100000) (i : Nat) (hi : i + 1 < S.length) (kk rs tn be ba to_ br : SV) :
    ∃ kk' ba' to' br', mb__law_due_widest_5 [.fz (.lst (ns.map .int)), kk, rs, .own (.lst ((S.map (·.2)).map .int)), tn, be, .own (.lst ((0 :: sizesS S i).map .int)), .fz (.int (1 + (i : Int))), ba, to_, br] =
      some (.nx [.fz (.lst (ns.map .int)), kk', rs, .own (.lst ((S.map (·.2)).map .int)), tn, be, .own (.lst ((0 :: sizesS S (i + 1)).map .int)), .fz (.int (1 + (i : Int))), ba', to', br']) := by
  have hall : ∀ q ∈ S, q ∈ kf 0 ns := fun q hq => (sortP_perm _).mem_iff.mp (hS ▸ hq)
  have q2 : S[i + 1]? = some S[i + 1] := by simp
  generalize S[i + 1] = q at q2
  have hq := kf_at (hall q (List.mem_of_getElem? q2))
  have hcut : cutD ((S.map (·.2)).map D.int) none (some (1 + (i : Int))) = ((S.take (i + 1)).map (·.2)).map .int := by
    rw [show (1 + (i : Int)) = ((i + 1 : Nat) : Int) by omega, cutD_take, List.map_take, List.map_take]
  have hbar : atI ((S.map (·.2)).map D.int) (1 + (i : Int)) = some (.int q.2) := by
    rw [atI_of (by omega), List.getElem?_map, List.getElem?_map, show (1 + (i : Int)).toNat = i + 1 by omega, q2]
    rfl
  have hmax := max_top (S := S) (i := i + 1) (by omega) (by omega) fun q hq => (kf_at (hall q hq)).2
  have h5 : condB S (i + 1) = (decide (totS S (i + 1) < q.1) || (decide (totS S (i + 1) = q.1) && decide (topS S (i + 1) < q.2))) := by unfold condB; rw [q2]
  have h6 : (sizesS S i).length + 1 < sizeLine := by
    have := sizesS_len S i
    have h := congrArg List.length hS
    rw [(sortP_perm _).length_eq] at h
    have := kf_len ns 0
    rw [sizeLine_eq]; omega
  have h7 : sizesS S (i + 1) = if condB S (i + 1) = true then sizesS S i ++ [(1 + (i : Int))] else sizesS S i := by
    rw [sizesS, show ((i + 1 : Nat) : Int) = 1 + (i : Int) by omega]
  have hzz : (S.take (i + 1)).length ≤ 100000 := by
    have h := congrArg List.length hS
    rw [(sortP_perm _).length_eq] at h
    have := kf_len ns 0
    rw [List.length_take]; omega
  have el := lcLoopV_map (j := 8) (d0 := ((S.take (i + 1)).map (·.2)).map .int) (ns := [1]) (g := sto 1) (t := DL.ret true) (e := me__law_due_widest_4) (F := fun d => match d with | .int k => .int (ns.getD k.toNat 0) | d => d) (ρ := [.fz (.lst (ns.map .int)), .un, rs, .own (.lst ((S.map (·.2)).map .int)), tn, be, .own (.lst ((0 :: sizesS S i).map .int)), .fz (.int (1 + (i : Int))), .own (.lst (((S.take (i + 1)).map (·.2)).map .int)), to_, br]) rfl (ds := ((S.take (i + 1)).map (·.2)).map .int) (acc := []) (fun d hd => by
    obtain ⟨k, hk, rfl⟩ := List.mem_map.mp hd
    obtain ⟨p, hp, rfl⟩ := List.mem_map.mp hk
    have ga := (kf_at (hall p (List.mem_of_mem_take hp))).1
    have gb := (kf_at (hall p (List.mem_of_mem_take hp))).2
    have gc : ns.getD p.2.toNat 0 = p.1 := by
      rw [atI_of gb, List.getElem?_map] at ga
      cases hx : ns[p.2.toNat]? with
      | none => rw [hx] at ga; cases ga
      | some y => rw [hx] at ga; cases ga; rw [List.getD_eq_getElem?_getD, hx]; rfl
    refine ⟨[.fz (.lst (ns.map .int)), .fz (.int p.2), rs, .own (.lst ((S.map (·.2)).map .int)), tn, be, .own (.lst ((0 :: sizesS S i).map .int)), .fz (.int (1 + (i : Int))), .own (.lst (((S.take (i + 1)).map (·.2)).map .int)), to_, br], [.fz (.lst (ns.map .int)), .fz (.int p.2), rs, .own (.lst ((S.map (·.2)).map .int)), tn, be, .own (.lst ((0 :: sizesS S i).map .int)), .fz (.int (1 + (i : Int))), .own (.lst (((S.take (i + 1)).map (·.2)).map .int)), to_, br], [.fz (.lst (ns.map .int)), .fz (.int p.2), rs, .own (.lst ((S.map (·.2)).map .int)), tn, be, .own (.lst ((0 :: sizesS S i).map .int)), .fz (.int (1 + (i : Int))), .own (.lst (((S.take (i + 1)).map (·.2)).map .int)), to_, br], [.fz (.lst (ns.map .int)), .fz (.int p.2), rs, .own (.lst ((S.map (·.2)).map .int)), tn, be, .own (.lst ((0 :: sizesS S i).map .int)), .fz (.int (1 + (i : Int))), .own (.lst (((S.take (i + 1)).map (·.2)).map .int)), to_, br], .fz (.int p.1), rfl, rfl, ?_, ?_, rfl⟩
    · generalize ((S.take (i + 1)).map (·.2)).map D.int = A1
      generalize ((0 :: sizesS S i).map D.int) = A2
      generalize (S.map (·.2)).map D.int = A3
      clear h7 h6 h5 hmax hbar hcut hq q2 hall gb gc hzz
      unfold me__law_due_widest_4
      walk_at "dl"
    · show some (Res.ok (D.int p.1) _) = some (Res.ok (D.int (ns.getD p.2.toNat 0)) _)
      rw [gc]) (by rw [sizeLine_eq, List.length_map, List.length_map]; show 0 + _ ≤ _; omega)
  have ef : (((S.take (i + 1)).map (·.2)).map D.int).map (fun d => match d with | .int k => D.int (ns.getD k.toNat 0) | d => d) = ((S.take (i + 1)).map (·.1)).map .int := by
    rw [List.map_map, List.map_map, List.map_map]
    refine List.map_congr_left fun p hp => ?_
    have ga := (kf_at (hall p (List.mem_of_mem_take hp))).1
    have gb := (kf_at (hall p (List.mem_of_mem_take hp))).2
    rw [atI_of gb, List.getElem?_map] at ga
    cases hx : ns[p.2.toNat]? with
    | none => rw [hx] at ga; cases ga
    | some y =>
      rw [hx] at ga
      cases ga
      show D.int (ns.getD p.2.toNat 0) = D.int p.1
      rw [List.getD_eq_getElem?_getD, hx]; rfl
  rw [ef, List.nil_append] at el
  have hsum : ((S.take (i + 1)).map (·.1)).sum = totS S (i + 1) := rfl
  clear ef hzz hall q2
  generalize hA : (S.take (i + 1)).map (·.1) = A at el hsum
  generalize hB : (S.take (i + 1)).map (·.2) = B at el hmax hcut
  generalize (S.map (·.2)).map D.int = R at *
  generalize totS S (i + 1) = tt at *
  generalize topS S (i + 1) = pp at *
  clear hA hB
  have hb := hq.1
  clear hq
  refine ⟨.un, .own (.lst (B.map .int)), .fz (.int tt), .fz (.int q.2), ?_⟩
  have s0 : sb__law_due_widest_5_0 [.fz (.lst (ns.map .int)), kk, rs, .own (.lst R), tn, be, .own (.lst ((0 :: sizesS S i).map .int)), .fz (.int (1 + (i : Int))), ba, to_, br] = some (.nx [.fz (.lst (ns.map .int)), kk, rs, .own (.lst R), tn, be, .own (.lst ((0 :: sizesS S i).map .int)), .fz (.int (1 + (i : Int))), .own (.lst (B.map .int)), to_, br]) := by
    clear el hsum hmax hbar h5 h6 h7 hb
    generalize (0 :: sizesS S i).map D.int = Z
    unfold sb__law_due_widest_5_0
    walk_at "dl"
  have s1 : sb__law_due_widest_5_1 [.fz (.lst (ns.map .int)), kk, rs, .own (.lst R), tn, be, .own (.lst ((0 :: sizesS S i).map .int)), .fz (.int (1 + (i : Int))), .own (.lst (B.map .int)), to_, br] = some (.nx [.fz (.lst (ns.map .int)), .un, rs, .own (.lst R), tn, be, .own (.lst ((0 :: sizesS S i).map .int)), .fz (.int (1 + (i : Int))), .own (.lst (B.map .int)), .fz (.int tt), br]) := by
    clear hmax hbar h5 h6 h7 hb s0 hcut
    generalize (0 :: sizesS S i).map D.int = Z at *
    generalize B.map D.int = BB at *
    unfold sb__law_due_widest_5_1
    walk_at "dl"
  have s2 : sb__law_due_widest_5_2 [.fz (.lst (ns.map .int)), .un, rs, .own (.lst R), tn, be, .own (.lst ((0 :: sizesS S i).map .int)), .fz (.int (1 + (i : Int))), .own (.lst (B.map .int)), .fz (.int tt), br] = some (.nx [.fz (.lst (ns.map .int)), .un, rs, .own (.lst R), tn, be, .own (.lst ((0 :: sizesS S i).map .int)), .fz (.int (1 + (i : Int))), .own (.lst (B.map .int)), .fz (.int tt), .fz (.int q.2)]) := by
    clear hmax h5 h6 h7 hb s0 s1 hcut el hsum
    generalize (0 :: sizesS S i).map D.int = Z
    unfold sb__law_due_widest_5_2
    walk_at "dl"
  rw [mb__law_due_widest_5_eq, mSeq_nx s0, mSeq_nx s1, mSeq_nx s2, h7]
  clear s0 s1 s2 el hsum hcut h7 hbar
  rw [h5]
  clear h5
  simp only [List.map_cons]
  generalize sizesS S i = L at *
  by_cases c1 : tt < q.1
  · rw [if_pos (by simp [c1]), List.map_append, List.map_cons, List.map_nil]
    unfold sb__law_due_widest_5_3
    walk_at "dl"
  · by_cases c2 : tt = q.1
    · subst c2
      by_cases c3 : pp < q.2
      · rw [if_pos (by simp [c3]), List.map_append, List.map_cons, List.map_nil]
        unfold sb__law_due_widest_5_3
        walk_at "dl"
      · rw [if_neg (by simp [c3])]
        unfold sb__law_due_widest_5_3
        walk_at "dl"
    · rw [if_neg (by simp [c1, c2])]
      unfold sb__law_due_widest_5_3
      walk_at "dl"

theorem due_widest_eq {ns : List Int} (hz : ns.length ≤ 100000) : g__law_due_widest [.fz (.lst (ns.map .int))] = some (.ok (.fz (.int (lastZ (sizesS (sortP (kf 0 ns)) ((sortP (kf 0 ns)).length - 1))))) [.un]) := by
  have hg : rgOk (ns.length : Int) = true := rgOk_of (by omega) (by omega)
  have hg1 : rgOk 1 = true := by decide
  have hSl : (sortP (kf 0 ns)).length ≤ ns.length := by rw [(sortP_perm _).length_eq]; exact kf_len ns 0
  have hgs : rgOk ((sortP (kf 0 ns)).length : Int) = true := rgOk_of (by omega) (by omega)
  have a0 := wid_rest hz
  have a1 : st__law_due_widest_1 [.fz (.lst (ns.map .int)), .un, .own (.lst (((kf 0 ns).map (·.2)).map .int)), .un, .un, .un, .un, .un, .un, .un, .un] = some (.nx [.fz (.lst (ns.map .int)), .un, .own (.lst (((kf 0 ns).map (·.2)).map .int)), .own (.lst []), .un, .un, .un, .un, .un, .un, .un]) := by
    clear a0
    unfold st__law_due_widest_1
    walk_at "dl"
  obtain ⟨ρ1, e1, kk, rs, tn, be, hrs, rfl⟩ := mLoop_ix (g := sto 4) (b := mb__law_due_widest_3) (ds := rgD 0 ns.length) (k := 0) (fun i ρ => ∃ kk rs tn be, (rs = .own (.lst (((kf 0 ns).map (·.2)).map .int)) ∨ rs = .fz (.lst (((kf 0 ns).map (·.2)).map .int))) ∧ ρ = [.fz (.lst (ns.map .int)), kk, rs, .own (.lst ((((sortP (kf 0 ns)).take i).map (·.2)).map .int)), tn, be, .un, .un, .un, .un, .un])
    (ρ := [.fz (.lst (ns.map .int)), .un, .own (.lst (((kf 0 ns).map (·.2)).map .int)), .own (.lst []), .un, .un, .un, .un, .un, .un, .un]) (fun i d ρ hd hi => by
      obtain ⟨kk, rs, tn, be, hrs, rfl⟩ := hi
      rw [Nat.zero_add]
      obtain ⟨k1, b1, e1⟩ := wid_turn (ns := ns) i hz kk rs (.fz d) be .un .un .un .un .un hrs
      exact ⟨_, _, rfl, e1, k1, _, .fz d, b1, .inr rfl, rfl⟩) ⟨.un, _, .un, .un, .inl rfl, rfl⟩
  rw [Nat.zero_add, show (rgD 0 ns.length).length = ns.length by simp [rgD], List.take_of_length_le hSl] at e1
  have a2 : st__law_due_widest_2 [.fz (.lst (ns.map .int)), .un, .own (.lst (((kf 0 ns).map (·.2)).map .int)), .own (.lst []), .un, .un, .un, .un, .un, .un, .un] = some (.nx [.fz (.lst (ns.map .int)), kk, rs, .own (.lst (((sortP (kf 0 ns)).map (·.2)).map .int)), tn, be, .un, .un, .un, .un, .un]) := by
    clear a0 a1 hrs hSl hgs
    generalize ((kf 0 ns).map (·.2)).map D.int = A at *
    generalize ((sortP (kf 0 ns)).map (·.2)).map D.int = B at *
    unfold st__law_due_widest_2
    walk_at "dl"
  have a3 : st__law_due_widest_3 [.fz (.lst (ns.map .int)), kk, rs, .own (.lst (((sortP (kf 0 ns)).map (·.2)).map .int)), tn, be, .un, .un, .un, .un, .un] = some (.nx [.fz (.lst (ns.map .int)), kk, rs, .own (.lst (((sortP (kf 0 ns)).map (·.2)).map .int)), tn, be, .own (.lst [.int 0]), .un, .un, .un, .un]) := by
    clear a0 a1 a2 e1 hrs hSl hgs
    generalize ((sortP (kf 0 ns)).map (·.2)).map D.int = B at *
    unfold st__law_due_widest_3
    walk_at "dl"
  show fin0 _ (m__law_due_widest [.fz (.lst (ns.map .int)), .un, .un, .un, .un, .un, .un, .un, .un, .un, .un]) = _
  rw [m__law_due_widest_eq, mSeq_nx a0, mSeq_nx a1, mSeq_nx a2, mSeq_nx a3]
  clear a0 a1 a2 a3 e1 hrs
  generalize hS : sortP (kf 0 ns) = S at *
  obtain ⟨ρ2, e2, kk2, ba, mn, to_, br, rfl⟩ := mLoop_ix (g := sto 7) (b := mb__law_due_widest_5) (ds := rgD 1 ((S.length : Int) - 1).toNat) (k := 0) (fun i ρ => ∃ kk ba mn to_ br, ρ = [.fz (.lst (ns.map .int)), kk, rs, .own (.lst ((S.map (·.2)).map .int)), tn, be, .own (.lst ((0 :: sizesS S i).map .int)), mn, ba, to_, br])
    (ρ := [.fz (.lst (ns.map .int)), kk, rs, .own (.lst ((S.map (·.2)).map .int)), tn, be, .own (.lst [.int 0]), .un, .un, .un, .un]) (fun i d ρ hd hi => by
      obtain ⟨kk, ba, mn, to_, br, rfl⟩ := hi
      rw [Nat.zero_add]
      have hl : i < ((S.length : Int) - 1).toNat := by
        have := (List.getElem?_eq_some_iff.mp hd).1
        simpa [rgD] using this
      rw [rgD_get, if_pos hl] at hd
      cases hd
      obtain ⟨k1, b1, t1, r1, e1⟩ := wid_size hS hz i (by omega) kk rs tn be ba to_ br
      exact ⟨[.fz (.lst (ns.map .int)), kk, rs, .own (.lst ((S.map (·.2)).map .int)), tn, be, .own (.lst ((0 :: sizesS S i).map .int)), .fz (.int (1 + (i : Int))), ba, to_, br], _, rfl, e1, k1, b1, _, t1, r1, rfl⟩) ⟨kk, .un, .un, .un, .un, rfl⟩
  rw [Nat.zero_add, show (rgD 1 ((S.length : Int) - 1).toNat).length = S.length - 1 by simp [rgD]] at e2
  have h9 : atI ((0 :: sizesS S (S.length - 1)).map D.int) (-1) = some (.int (lastZ (sizesS S (S.length - 1)))) := by
    rw [DL.atI_last (by simp)]
    simp only [List.getElem_map, List.length_map, Option.some.injEq, D.int.injEq]
    unfold lastZ
    rw [List.getLast_eq_getElem]
  generalize sizesS S (S.length - 1) = L at *
  generalize lastZ L = z at *
  have hl : ((S.map (·.2)).map D.int).length = S.length := by rw [List.length_map, List.length_map]
  generalize (S.map (·.2)).map D.int = B at *
  generalize (0 :: L).map D.int = Z at *
  generalize S.length = n at *
  clear hS hg hSl
  unfold st__law_due_widest_4 st__law_due_widest_5
  walk_at "dl"
theorem cp_ints (ns : List Int) : cpL 0 (ns.map D.int) = ns.map .int := by
  rw [cpL_map, List.map_map]
  rfl
theorem nods_ints (ns : List Int) : nods (ns.map D.int) = ns.length := by
  induction ns with
  | nil => rfl
  | cons n ns ih => simp only [List.map_cons, nods, ih, nod, List.length_cons]; omega
theorem pls_ints (ns : List Int) : pls (ns.map D.int) = true := by
  induction ns with
  | nil => rfl
  | cons n ns ih => simp only [List.map_cons, pls, ih, pl, Bool.and_true]
theorem fits_ints (ns : List Int) : fits (ns.map D.int) = true := by
  induction ns with
  | nil => rfl
  | cons n ns ih => simp only [List.map_cons, fits, ih, fit, Bool.and_true]
theorem deps_ints (ns : List Int) : deps (ns.map D.int) = 0 := by
  induction ns with
  | nil => rfl
  | cons n ns ih => simp only [List.map_cons, deps, ih, dep]; rfl
theorem copy_lt {d : D} {ns : List Int} (h : lt d ns) (hz : ns.length ≤ 2000) : g__law_copy [.fz d, .fz (.int 0)] = some (.ok (outR d) [.un, .un]) := by
  have : g__law_copy [.fz d, .fz (.int 0)] = some (.ok (outR (cpD 0 d)) [.un, .un]) := copy_eq 0 (by
    rcases h with rfl | rfl <;> (simp only [dep, deps_ints]; omega)) (by
    rcases h with rfl | rfl <;> (simp only [fit, fits_ints, Bool.and_true, decide_eq_true_eq, List.length_map]; omega))
  rw [this]
  rcases h with rfl | rfl
  · show some (FRes.ok (outR (if (0 : Int) = 2 then D.tup (cpL 0 (ns.map .int)) else D.lst (cpL 0 (ns.map .int)))) _) = _
    rw [cp_ints, if_neg (by decide)]
  · show some (FRes.ok (outR (if (0 : Int) = 2 ∨ (0 : Int) = 0 then D.tup (cpL 0 (ns.map .int)) else D.lst (cpL 0 (ns.map .int)))) _) = _
    rw [cp_ints, if_pos (by decide)]
theorem same_lt {d : D} {ns : List Int} (h : lt d ns) (hz : ns.length ≤ 2000) : g__law_same [.fz d, .fz d] = some (.ok (.fz (.bl true)) [.un, .un]) :=
  same_eq (by rcases h with rfl | rfl <;> exact pls_ints ns) (by rcases h with rfl | rfl <;> (simp only [nod, nods_ints]; omega)) rfl
def hnd (hs : SV) (ns : List Int) : Prop := hs = .own (.lst (ns.map .int)) ∨ hs = .fz (.tup (ns.map .int))
def flow (p : Int) : Int := p - 3 * (if p < 3 then 1 else 0) - 100000000000000000000000000000 * (if p < 0 then 1 else 0)
theorem lower_el (p : Int) (ρ : List SV) (h : ρ[9]? = some (.fz (.int p))) : me__law_right_0 ρ = some (.ok (.fz (.int (flow p))) ρ) := by
  have hk : (10 : Int) ^ 29 = 100000000000000000000000000000 := by decide
  unfold me__law_right_0 flow
  by_cases h1 : p < 3
  · by_cases h2 : p < 0
    · walk_at "dl"
    · walk_at "dl"
  · have h2 : ¬ p < 0 := by omega
    walk_at "dl"

theorem right_turn (s : Sto) (hs : s.ok) (ns : List Int) (h0 : 0 < ns.length) (hz : ns.length ≤ 2000) (h : SV) (hh : hnd h ns) (pi tn ke du go lo at_ pi2 : SV) : ∃ (s' : Sto) (ns' : List Int) (h' ke' du' go' lo' at' pi2' : SV), s'.ok ∧ ns'.length = ns.length ∧ hnd h' ns' ∧
    mb__law_right_1 [.own s.d, pi, h, tn, ke, du, go, lo, at_, pi2] = some (.nx [.own s'.d, pi, h', tn, ke', du', go', lo', at', pi2']) := by
  obtain ⟨d, hd, hdd⟩ : ∃ d, lt d ns ∧ ((h = .own d ∧ d = .lst (ns.map .int)) ∨ (h = .fz d ∧ d = .tup (ns.map .int))) := by
    rcases hh with rfl | rfl
    · exact ⟨_, .inl rfl, .inl ⟨rfl, rfl⟩⟩
    · exact ⟨_, .inr rfl, .inr ⟨rfl, rfl⟩⟩
  have c1 := copy_lt hd hz
  have c2 := same_lt hd hz
  have c3 := due_least_eq (ns := ns) (by omega)
  have c4 := due_widest_eq (ns := ns) (by omega)
  have c5 := least_eq hd
  have c6 := widest_eq hd (by omega)
  have c7 := least_eq (d := .lst ((ns.map flow).map .int)) (ns := ns.map flow) (.inl rfl)
  have c8 := due_least_eq (ns := ns.map flow) (by rw [List.length_map]; omega)
  have c9 := same_small (d := .int (encB (sortP (kf 0 (ns.map flow))).head?)) rfl rfl
  generalize encB (sortP (kf 0 (ns.map flow))).head? = x3 at *
  generalize lastZ (sizesS (sortP (kf 0 ns)) ((sortP (kf 0 ns)).length - 1)) = x2 at *
  generalize encB (sortP (kf 0 ns)).head? = x1 at *
  have c0 := same_small (d := .lst [.int x1, .int x2]) rfl rfl
  have n1 : nolist (.int x1) = true := rfl
  have n2 : nolist (.int x2) = true := rfl
  have n3 : nolist (.int x3) = true := rfl
  have s0 : sb__law_right_1_0 [.own s.d, pi, h, tn, ke, du, go, lo, at_, pi2] = some (.nx [.own s.d, pi, h, tn, outR d, du, go, lo, at_, pi2]) := by
    clear c0 c2 c3 c4 c5 c6 c7 c8 c9 n1 n2 n3 hh hd
    unfold sb__law_right_1_0
    rcases hdd with ⟨rfl, rfl⟩ | ⟨rfl, rfl⟩
    · have hn : nolists (ns.map D.int) = true := ints_flat ns
      unfold outR at *
      generalize ns.map D.int = N at *
      walk_at "dl"
    · have hn : nolists (ns.map D.int) = true := ints_flat ns
      unfold outR at *
      generalize ns.map D.int = N at *
      walk_at "dl"
  have s1 : sb__law_right_1_1 [.own s.d, pi, h, tn, outR d, du, go, lo, at_, pi2] = some (.nx [.own s.d, pi, h, tn, outR d, .own (.lst [.int x1, .int x2]), go, lo, at_, pi2]) := by
    clear c0 c1 c2 c5 c6 c7 c8 c9 s0 hh hd n3
    generalize outR d = o
    unfold sb__law_right_1_1
    rcases hdd with ⟨rfl, rfl⟩ | ⟨rfl, rfl⟩
    · walk_at "dl"
    · walk_at "dl"
  have s2 : sb__law_right_1_2 [.own s.d, pi, h, tn, outR d, .own (.lst [.int x1, .int x2]), go, lo, at_, pi2] = some (.nx [.own s.d, pi, h, tn, outR d, .own (.lst [.int x1, .int x2]), .own (.lst [.int x1, .int x2]), lo, at_, pi2]) := by
    clear c0 c1 c2 c3 c4 c7 c8 c9 s0 s1 hh hd n3
    generalize outR d = o
    unfold sb__law_right_1_2
    rcases hdd with ⟨rfl, rfl⟩ | ⟨rfl, rfl⟩
    · walk_at "dl"
    · walk_at "dl"
  have s3 : sb__law_right_1_3 [.own s.d, pi, h, tn, outR d, .own (.lst [.int x1, .int x2]), .own (.lst [.int x1, .int x2]), lo, at_, pi2] = some (.nx [.own s.d, pi, h, tn, outR d, .own (.lst [.int x1, .int x2]), .own (.lst [.int x1, .int x2]), lo, at_, pi2]) := by
    clear c1 c3 c4 c5 c6 c7 c8 c9 s0 s1 s2 hh hd n3 n1 n2
    unfold sb__law_right_1_3
    rcases hdd with ⟨rfl, rfl⟩ | ⟨rfl, rfl⟩
    · unfold outR
      walk_at "dl"
    · unfold outR
      walk_at "dl"
  have s4 : sb__law_right_1_4 [.own s.d, pi, h, tn, outR d, .own (.lst [.int x1, .int x2]), .own (.lst [.int x1, .int x2]), lo, at_, pi2] = some (.nx [.own s.d, pi, h, tn, outR d, .own (.lst [.int x1, .int x2]), .own (.lst [.int x1, .int x2]), .own (.lst ((ns.map flow).map .int)), at_, .un]) := by
    clear c0 c1 c2 c3 c4 c5 c6 c7 c8 c9 s0 s1 s2 s3 hh hd n3 n1 n2
    generalize outR d = o
    have ef : (ns.map D.int).map (fun d => match d with | .int k => D.int (flow k) | d => d) = (ns.map flow).map .int := by
      rw [List.map_map, List.map_map]
      rfl
    rcases hdd with ⟨rfl, rfl⟩ | ⟨rfl, rfl⟩
    · have el := lcLoopV_map (j := 2) (d0 := ns.map .int) (ns := [9]) (g := sto 9) (t := DL.ret true) (e := me__law_right_0) (F := fun d => match d with | .int k => .int (flow k) | d => d) (ρ := [.own s.d, pi, .own (.lst (ns.map .int)), tn, o, .own (.lst [.int x1, .int x2]), .own (.lst [.int x1, .int x2]), lo, at_, .un]) rfl (ds := ns.map .int) (acc := []) (fun e he => by
        obtain ⟨k, _, rfl⟩ := List.mem_map.mp he
        exact ⟨_, _, _, _, .fz (.int (flow k)), rfl, rfl, lower_el k [.own s.d, pi, .own (.lst (ns.map .int)), tn, o, .own (.lst [.int x1, .int x2]), .own (.lst [.int x1, .int x2]), lo, at_, .fz (.int k)] rfl, rfl, rfl⟩) (by rw [sizeLine_eq]; simp; omega)
      rw [ef, List.nil_append] at el
      clear ef
      generalize (ns.map flow).map D.int = Z at *
      generalize ns.map D.int = Y at *
      unfold sb__law_right_1_4
      walk_at "dl"
    · have el := lcLoop_map (ns := [9]) (g := sto 9) (t := DL.ret true) (e := me__law_right_0) (F := fun d => match d with | .int k => .int (flow k) | d => d) (ρ := [.own s.d, pi, .fz (.tup (ns.map .int)), tn, o, .own (.lst [.int x1, .int x2]), .own (.lst [.int x1, .int x2]), lo, at_, .un]) (ds := ns.map .int) (acc := []) (fun e he => by
        obtain ⟨k, _, rfl⟩ := List.mem_map.mp he
        exact ⟨_, _, _, _, .fz (.int (flow k)), rfl, rfl, lower_el k [.own s.d, pi, .fz (.tup (ns.map .int)), tn, o, .own (.lst [.int x1, .int x2]), .own (.lst [.int x1, .int x2]), lo, at_, .fz (.int k)] rfl, rfl, rfl⟩) (by rw [sizeLine_eq]; simp; omega)
      rw [ef, List.nil_append] at el
      clear ef
      generalize (ns.map flow).map D.int = Z at *
      generalize ns.map D.int = Y at *
      unfold sb__law_right_1_4
      walk_at "dl"
  have s5 : sb__law_right_1_5 [.own s.d, pi, h, tn, outR d, .own (.lst [.int x1, .int x2]), .own (.lst [.int x1, .int x2]), .own (.lst ((ns.map flow).map .int)), at_, .un] = some (.nx [.own s.d, pi, h, tn, outR d, .own (.lst [.int x1, .int x2]), .own (.lst [.int x1, .int x2]), .own (.lst ((ns.map flow).map .int)), at_, .un]) := by
    clear c0 c1 c2 c3 c4 c5 c6 s0 s1 s2 s3 s4 hh hd hdd n1 n2
    generalize outR d = o
    generalize (ns.map flow).map D.int = Z at *
    unfold sb__law_right_1_5
    walk_at "dl"
  rw [mb__law_right_1_eq, mSeq_nx s0, mSeq_nx s1, mSeq_nx s2, mSeq_nx s3, mSeq_nx s4, mSeq_nx s5]
  clear c0 c1 c2 c3 c4 c5 c6 c7 c8 c9 s0 s1 s2 s3 s4 s5 hh hd n3 n1 n2
  generalize outR d = o
  generalize (ns.map flow).map D.int = Z
  rcases hdd with ⟨rfl, rfl⟩ | ⟨rfl, rfl⟩
  · obtain ⟨m, hm⟩ : ∃ m, ns.max? = some m := by
      cases ns with
      | nil => simp at h0
      | cons a l => exact ⟨_, List.max?_cons'⟩
    obtain ⟨a, s1, h1, e1, a0, a1, a2⟩ := take_eq s hs (ns.length : Int) (manyOk_small (by omega) (by omega))
    have a3 : a < ns.length := by
      by_cases hq : (ns.length : Int) < 2
      · rw [a2 hq]; omega
      · exact a1 (by omega)
    obtain ⟨y, s2, h2, _, e2⟩ := pick_int s1 h1 [-1, 0, 1, m, if m - 1 > 0 then m - 1 else 0] (by simp) (by simp)
    simp only [List.map_cons, List.map_nil] at e2
    have hix : ixN ns.length a = some a.toNat := ixN_of a0 (by omega)
    have hset : (ns.map D.int).set a.toNat (.int y) = (ns.set a.toNat y).map .int := by rw [List.map_set]
    have hpos : (0 : Int) < (ns.length : Int) := by omega
    refine ⟨s2, ns.set a.toNat y, .own (.lst ((ns.set a.toNat y).map .int)), o, .own (.lst [.int x1, .int x2]), .own (.lst [.int x1, .int x2]), .own (.lst Z), .fz (.int a), .un, h2, List.length_set, .inl rfl, ?_⟩
    clear a0 a1 a2 a3
    unfold Sto.d at e1 e2
    unfold sb__law_right_1_6 Sto.d
    walk_at "dl"
  · refine ⟨s, ns, .fz (.tup (ns.map .int)), o, .own (.lst [.int x1, .int x2]), .own (.lst [.int x1, .int x2]), .own (.lst Z), at_, .un, hs, rfl, .inr rfl, ?_⟩
    unfold sb__law_right_1_6
    walk_at "dl"
theorem right_eq (s : Sto) (hs : s.ok) (ns : List Int) (h0 : 0 < ns.length) (hz : ns.length ≤ 2000) : ∃ s' : Sto, s'.ok ∧ g__law_right [.own s.d, .fz (.lst (ns.map .int))] = some (.ok (.fz (.bl true)) [.own s'.d, .un]) := by
  obtain ⟨s1, b, h1, e1⟩ := mixed_eq s hs ns (by omega)
  have hh : hnd (if b then .fz (.tup (ns.map .int)) else .own (.lst (ns.map .int))) ns := by
    cases b
    · exact .inl rfl
    · exact .inr rfl
  generalize (if b then SV.fz (.tup (ns.map .int)) else .own (.lst (ns.map .int))) = hv at e1 hh
  obtain ⟨s2, ns2, hv2, a1, a2, a3, a4, a5, a6, h2, l2, hh2, e2⟩ := right_turn s1 h1 ns h0 hz hv hh (.fz (.lst (ns.map .int))) (.fz (.int 0)) .un .un .un .un .un .un
  obtain ⟨s3, ns3, hv3, b1, b2, b3, b4, b5, b6, h3, l3, hh3, e3⟩ := right_turn s2 h2 ns2 (by omega) (by omega) hv2 hh2 (.fz (.lst (ns.map .int))) (.fz (.int 1)) a1 a2 a3 a4 a5 a6
  have el : mLoop (sto 3) mb__law_right_1 (rgD 0 2) [.own s1.d, .fz (.lst (ns.map .int)), hv, .un, .un, .un, .un, .un, .un, .un] = some (.nx [.own s3.d, .fz (.lst (ns.map .int)), hv3, .fz (.int 1), b1, b2, b3, b4, b5, b6]) := by
    rw [show rgD 0 2 = [.int 0, .int 1] from rfl, mLoop_nx rfl e2, mLoop_nx rfl e3, mLoop_nil]
  refine ⟨s3, h3, ?_⟩
  clear e2 e3
  generalize ns.map D.int = N at *
  show fin0 _ (m__law_right [.own s.d, .fz (.lst N), .un, .un, .un, .un, .un, .un, .un, .un]) = _
  have a0 : st__law_right_0 [.own s.d, .fz (.lst N), .un, .un, .un, .un, .un, .un, .un, .un] = some (.nx [.own s1.d, .fz (.lst N), hv, .un, .un, .un, .un, .un, .un, .un]) := by
    clear el
    unfold Sto.d at e1
    unfold st__law_right_0 Sto.d
    rcases hh with rfl | rfl
    · walk_at "dl"
    · walk_at "dl"
  rw [m__law_right_eq, mSeq_nx a0]
  clear a0 e1 hh hh2 hh3
  have e9 : (2 : Int).toNat = 2 := rfl
  unfold Sto.d at el
  unfold st__law_right_1 st__law_right_2 Sto.d
  walk_at "dl"

theorem law_step (s : Sto) (hs : s.ok) (sc tn a b c d e f : SV) : ∃ (s' : Sto) (a' b' : SV), s'.ok ∧ mb_law_0 [sc, .own s.d, tn, a, b, c, d, e, f] = some (.nx [sc, .own s'.d, tn, a', b', c, d, e, f]) := by
  obtain ⟨x, s1, h1, e1, x0, x1, _⟩ := take_eq s hs 20 (manyOk_small (by decide) (by decide))
  have x2 := x1 (by decide)
  obtain ⟨z, s2, h2, m2, e2⟩ := pick_int s1 h1 [1, 2, 3, 3, 4, 5, 6, 8, 20, 1 + x] (by simp) (by simp)
  obtain ⟨top, s3, h3, m3, e3⟩ := pick_int s2 h2 [10, 100, 1000000000000000000000000000, 1000000000000000000000000000] (by decide) (by decide)
  have hz : 0 < z ∧ z ≤ 100 := by
    simp only [List.mem_cons, List.not_mem_nil, or_false] at m2
    omega
  have ht : 0 ≤ top ∧ top < 2 ^ 190 := by
    simp only [List.mem_cons, List.not_mem_nil, or_false] at m3
    rcases m3 with rfl | rfl | rfl | rfl <;> decide
  obtain ⟨n, rfl⟩ : ∃ n : Nat, z = (n : Int) := ⟨z.toNat, by omega⟩
  obtain ⟨s4, ns, h4, l4, l5, e4⟩ := asked_eq s3 h3 n (by omega) (by omega) top ht.1 ht.2
  obtain ⟨s5, h5, e5⟩ := right_eq s4 h4 ns l4 l5
  refine ⟨s5, .fz (.int n), .fz (.int top), h5, ?_⟩
  simp only [List.map_cons, List.map_nil] at e2 e3
  have hk : (10 : Int) ^ 27 = 1000000000000000000000000000 := by decide
  have a0 : sb_law_0_0 [sc, .own s.d, tn, a, b, c, d, e, f] = some (.nx [sc, .own s2.d, tn, .fz (.int n), b, c, d, e, f]) := by
    clear e3 e4 e5 m2 m3 hk
    unfold Sto.d at e1 e2
    unfold sb_law_0_0 Sto.d
    walk_at "dl"
  have a1 : sb_law_0_1 [sc, .own s2.d, tn, .fz (.int n), b, c, d, e, f] = some (.nx [sc, .own s3.d, tn, .fz (.int n), .fz (.int top), c, d, e, f]) := by
    clear e1 e2 e4 e5 m2 m3 a0
    unfold Sto.d at e3
    unfold sb_law_0_1 Sto.d
    walk_at "dl"
  have a2 : sb_law_0_2 [sc, .own s3.d, tn, .fz (.int n), .fz (.int top), c, d, e, f] = some (.nx [sc, .own s5.d, tn, .fz (.int n), .fz (.int top), c, d, e, f]) := by
    clear e1 e2 e3 m2 m3 a0 a1 hk
    generalize ns.map D.int = N at *
    unfold Sto.d at e4 e5
    unfold sb_law_0_2 Sto.d
    walk_at "dl"
  rw [mb_law_0_eq, mSeq_nx a0, mSeq_nx a1, a2]
theorem kf_rep (n k : Nat) : kf k (List.replicate n (-1)) = [] := by
  induction n generalizing k with
  | zero => rfl
  | succ n ih => rw [List.replicate_succ, kf, if_neg (by decide), ih]
theorem rep_int_l (x : Int) (n : Nat) : (List.replicate n [D.int x]).flatten = (List.replicate n x).map .int := by
  induction n with
  | zero => rfl
  | succ n ih => rw [List.replicate_succ, List.flatten_cons, ih, List.replicate_succ]; rfl
theorem law_true (ns : List Int) (hl : ns.length ≤ 63) (d : D) (hd : d = .lst (ns.map .int) ∨ d = .seq (ns.map .int)) : g_law [.fz d] = some (.ok (.fz (.bl true)) [.un]) := by
  obtain ⟨s0, h0, e0⟩ := store_eq ns hl d hd
  obtain ⟨ρ1, e1, s1, tn, a, b, h1, rfl⟩ := mLoop_ix (g := sto 2) (b := mb_law_0) (ds := rgD 0 5) (k := 0) (fun i ρ => ∃ (s' : Sto) (tn a b : SV), s'.ok ∧ ρ = [.fz d, .own s'.d, tn, a, b, .un, .un, .un, .un]) (ρ := [.fz d, .own s0.d, .un, .un, .un, .un, .un, .un, .un]) (fun i d' ρ hd hi => by
    obtain ⟨s', tn, a, b, h', rfl⟩ := hi
    obtain ⟨s2, a', b', h2, e2⟩ := law_step s' h' (.fz d) (.fz d') a b .un .un .un .un
    exact ⟨_, _, rfl, e2, s2, .fz d', a', b', h2, rfl⟩) ⟨s0, .un, .un, .un, h0, rfl⟩
  have e5 : (5 : Int).toNat = 5 := rfl
  have a0 : st_law_0 [.fz d, .un, .un, .un, .un, .un, .un, .un, .un] = some (.nx [.fz d, .own s0.d, .un, .un, .un, .un, .un, .un, .un]) := by
    clear hd e1
    unfold Sto.d at e0
    unfold st_law_0 Sto.d
    walk_at "dl"
  have a1 : st_law_1 [.fz d, .own s0.d, .un, .un, .un, .un, .un, .un, .un] = some (.nx [.fz d, .own s1.d, tn, a, b, .un, .un, .un, .un]) := by
    clear hd e0 a0
    unfold st_law_1
    walk_at "dl"
  have a2 : st_law_2 [.fz d, .own s1.d, tn, a, b, .un, .un, .un, .un] = some (.nx [.fz d, .own s1.d, tn, a, b, .un, .un, .un, .un]) := by
    clear hd e0 a0 e1 a1
    have c1 : g_least_name [.fz (.lst [])] = some (.ok (.fz (.int (-1))) [.un]) := least_eq (ns := []) (.inl rfl)
    have c2 : g_least_name [.fz (.tup [])] = some (.ok (.fz (.int (-1))) [.un]) := least_eq (ns := []) (.inr rfl)
    have c3 : g_widest_batch [.fz (.lst [])] = some (.ok (.fz (.int 0)) [.un]) := widest_eq (ns := []) (.inl rfl) (by simp)
    have c4 : g_widest_batch [.fz (.tup [])] = some (.ok (.fz (.int 0)) [.un]) := widest_eq (ns := []) (.inr rfl) (by simp)
    have c5 := same_small (d := .lst [.int (-1), .int (-1), .int 0, .int 0]) rfl rfl
    unfold st_law_2
    walk_at "dl"
  obtain ⟨m, s2, h2, e2, m0, m1, _⟩ := take_eq s1 h1 20 (manyOk_small (by decide) (by decide))
  have m2 := m1 (by decide)
  obtain ⟨n, rfl⟩ : ∃ n : Nat, m = (n : Int) := ⟨m.toNat, by omega⟩
  have hrep : repD [.int (-1)] (n : Int) = (List.replicate n (-1)).map .int := by
    unfold repD
    rw [Int.toNat_natCast]
    exact rep_int_l _ _
  have hro : repOk (n : Int) 1 = true := by
    unfold repOk
    rw [Bool.and_eq_true, nlt_iff, nlt_iff, sizeLine_eq]
    omega
  have a3 : st_law_3 [.fz d, .own s1.d, tn, a, b, .un, .un, .un, .un] = some (.nx [.fz d, .own s2.d, tn, a, b, .own (.lst ((List.replicate n (-1)).map .int)), .un, .un, .un]) := by
    clear hd e0 a0 e1 a1 a2 m0 m1 m2
    generalize (List.replicate n (-1)).map D.int = L at *
    unfold Sto.d at e2
    unfold st_law_3 Sto.d
    walk_at "dl"
  have hlen : ((List.replicate n (-1 : Int)).map D.int).length = n := by simp
  obtain ⟨at_, s3, h3, e3, t0, t1, t2⟩ := take_eq s2 h2 ((n : Int) + 1) (manyOk_small (by omega) (by omega))
  have t3 : at_ ≤ n := by
    by_cases hq : (n : Int) + 1 < 2
    · rw [t2 hq]; omega
    · have := t1 (by omega); omega
  obtain ⟨k, rfl⟩ : ∃ k : Nat, at_ = (k : Int) := ⟨at_.toNat, by omega⟩
  have a4 : st_law_4 [.fz d, .own s2.d, tn, a, b, .own (.lst ((List.replicate n (-1)).map .int)), .un, .un, .un] = some (.nx [.fz d, .own s3.d, tn, a, b, .own (.lst ((List.replicate n (-1)).map .int)), .fz (.int k), .un, .un]) := by
    clear hd e0 a0 e1 a1 a2 a3 m0 m1 m2 e2 hrep hro t0 t1 t2 t3
    generalize (List.replicate n (-1)).map D.int = L at *
    unfold Sto.d at e3
    unfold st_law_4 Sto.d
    walk_at "dl"
  obtain ⟨p, s4, h4, p0, _, e4⟩ := upto_eq s3 h3 999999999999999999999999999999 (by decide) (by decide)
  have hk : (10 : Int) ^ 30 = 1000000000000000000000000000000 := by decide
  have a5 : st_law_5 [.fz d, .own s3.d, tn, a, b, .own (.lst ((List.replicate n (-1)).map .int)), .fz (.int k), .un, .un] = some (.nx [.fz d, .own s4.d, tn, a, b, .own (.lst ((List.replicate n (-1)).map .int)), .fz (.int k), .fz (.int p), .un]) := by
    clear hd e0 a0 e1 a1 a2 a3 a4 m0 m1 m2 e2 e3 hrep hro hlen
    generalize (List.replicate n (-1)).map D.int = L at *
    unfold Sto.d at e4
    unfold st_law_5 Sto.d
    walk_at "dl"
  obtain ⟨one, hone⟩ : ∃ one : List Int, one = List.replicate k (-1) ++ [p] ++ List.replicate (n - k) (-1) := ⟨_, rfl⟩
  have hc1 : cutD ((List.replicate n (-1)).map D.int) none (some (k : Int)) = (List.replicate k (-1)).map .int := by
    rw [cutD_take, ← List.map_take, List.take_replicate, Nat.min_eq_left (by omega)]
  have hc2 : cutD ((List.replicate n (-1)).map D.int) (some (k : Int)) none = (List.replicate (n - k) (-1)).map .int := by
    have : cutD ((List.replicate n (-1)).map D.int) (some (k : Int)) none = ((List.replicate n (-1)).map D.int).drop k := by
      unfold DL.cutD
      simp only [HT.sIx]
      rw [if_neg (by omega), show (k : Int).toNat = k by omega, Nat.min_eq_left (by rw [hlen]; omega), List.take_of_length_le (by simp)]
    rw [this, ← List.map_drop, List.drop_replicate]
  have hz1 : (List.replicate k (-1 : Int)).length + 1 ≤ sizeLine := by rw [sizeLine_eq, List.length_replicate]; omega
  have hz2 : (List.replicate k (-1 : Int)).length + 1 + (List.replicate (n - k) (-1 : Int)).length ≤ sizeLine := by rw [sizeLine_eq, List.length_replicate, List.length_replicate]; omega
  have a6 : st_law_6 [.fz d, .own s4.d, tn, a, b, .own (.lst ((List.replicate n (-1)).map .int)), .fz (.int k), .fz (.int p), .un] = some (.nx [.fz d, .own s4.d, tn, a, b, .own (.lst ((List.replicate n (-1)).map .int)), .fz (.int k), .fz (.int p), .own (.lst (one.map .int))]) := by
    rw [hone, List.map_append, List.map_append, List.map_cons, List.map_nil]
    clear hd e0 a0 e1 a1 a2 a3 a4 a5 m0 m1 m2 e2 e3 e4 hrep hro hlen hk hone
    generalize List.replicate n (-1 : Int) = L at *
    generalize List.replicate k (-1 : Int) = L1 at *
    generalize List.replicate (n - k) (-1 : Int) = L2 at *
    have hz3 : (L1.map D.int ++ [D.int p]).length = L1.length + 1 := by simp
    unfold st_law_6
    walk_at "dl"
  have hkf : kf 0 one = [(p, (k : Int))] := by
    rw [hone, kf_app, kf_app, kf_rep, kf_rep]
    simp only [List.length_replicate, Nat.zero_add, List.nil_append, List.append_nil, kf]
    rw [if_pos p0]
  have a7 : st_law_7 [.fz d, .own s4.d, tn, a, b, .own (.lst ((List.replicate n (-1)).map .int)), .fz (.int k), .fz (.int p), .own (.lst (one.map .int))] = some (.nx [.fz d, .own s4.d, tn, a, b, .own (.lst ((List.replicate n (-1)).map .int)), .fz (.int k), .fz (.int p), .own (.lst (one.map .int))]) := by
    have c1 := least_eq (d := .lst ((List.replicate n (-1)).map .int)) (ns := List.replicate n (-1)) (.inl rfl)
    have c2 := widest_eq (d := .lst ((List.replicate n (-1)).map .int)) (ns := List.replicate n (-1)) (.inl rfl) (by simp; omega)
    have c3 := least_eq (d := .lst (one.map .int)) (ns := one) (.inl rfl)
    have c4 := widest_eq (d := .lst (one.map .int)) (ns := one) (.inl rfl) (by rw [hone]; simp; omega)
    rw [kf_rep] at c1 c2
    rw [hkf] at c3 c4
    replace c1 : g_least_name [.fz (.lst ((List.replicate n (-1)).map .int))] = some (.ok (.fz (.int (-1))) [.un]) := c1
    replace c2 : g_widest_batch [.fz (.lst ((List.replicate n (-1)).map .int))] = some (.ok (.fz (.int 0)) [.un]) := c2
    replace c3 : g_least_name [.fz (.lst (one.map .int))] = some (.ok (.fz (.int k)) [.un]) := c3
    replace c4 : g_widest_batch [.fz (.lst (one.map .int))] = some (.ok (.fz (.int 0)) [.un]) := c4
    have c5 := same_small (d := .lst [.int (-1), .int 0, .int k, .int 0]) rfl rfl
    clear hd e0 a0 e1 a1 a2 a3 a4 a5 a6 m0 m1 m2 e2 e3 e4 hrep hro hlen hk hone hc1 hc2 hz1 hz2 hkf t0 t1 t2 t3 p0
    generalize (List.replicate n (-1)).map D.int = L at *
    generalize one.map D.int = O at *
    unfold st_law_7
    walk_at "dl"
  show fin0 [false] (m_law [.fz d, .un, .un, .un, .un, .un, .un, .un, .un]) = _
  rw [m_law_eq, mSeq_nx a0, mSeq_nx a1, mSeq_nx a2, mSeq_nx a3, mSeq_nx a4, mSeq_nx a5, mSeq_nx a6, mSeq_nx a7]
  clear hd e0 a0 e1 a1 a2 a3 a4 a5 a6 a7 m0 m1 m2 e2 e3 e4 hrep hro hlen hk hone hc1 hc2 hz1 hz2 hkf t0 t1 t2 t3 p0
  have hr0 : repD [.int 0] 20 = (List.replicate 20 0).map .int := rep_int_l 0 20
  have hr1 : repOk 20 1 = true := by
    unfold repOk
    rw [Bool.and_eq_true, nlt_iff, nlt_iff, sizeLine_eq]
    decide
  have c1 : g_least_name [.fz (.lst ((List.replicate 20 0).map .int))] = some (.ok (.fz (.int 0)) [.un]) := by
    rw [least_eq (ns := List.replicate 20 0) (.inl rfl)]
    congr 3
  have c2 : g_widest_batch [.fz (.lst ((List.replicate 20 0).map .int))] = some (.ok (.fz (.int 19)) [.un]) := by
    rw [widest_eq (ns := List.replicate 20 0) (.inl rfl) (by simp)]
    congr 4
  have c3 : g_widest_batch [.fz (.lst [.int 0, .int 0, .int 1])] = some (.ok (.fz (.int 2)) [.un]) := by
    rw [widest_eq (d := .lst [.int 0, .int 0, .int 1]) (ns := [0, 0, 1]) (.inl rfl) (by simp)]
    congr 4
  have c5 := same_small (d := .lst [.int 0, .int 19, .int 2]) rfl rfl
  generalize (List.replicate 20 0).map D.int = L at *
  have hz : (3 : Nat) ≤ sizeLine := by rw [sizeLine_eq]; decide
  unfold st_law_8
  walk_at "dl"

end
def top (i : Nat) : Stmt := PySem.Challenge.pw_stilltofall_k07_least_and_widest.main.body.getD i (.Pass ⟨0, 0, 0, 0⟩)
abbrev s_least_name : Stmt := top 1
abbrev s_keys_in : Stmt := top 3
abbrev s_batch_sizes : Stmt := top 4
abbrev s_widest_batch : Stmt := top 5
abbrev s__law_mix : Stmt := top 7
abbrev s__law_store : Stmt := top 8
abbrev s__law_next : Stmt := top 9
abbrev s__law_take : Stmt := top 10
abbrev s__law_rare : Stmt := top 11
abbrev s__law_pick : Stmt := top 12
abbrev s__law_upto : Stmt := top 13
abbrev s__law_kind : Stmt := top 14
abbrev s__law_same : Stmt := top 15
abbrev s__law_copy : Stmt := top 16
abbrev s__law_mixed : Stmt := top 17
abbrev s__law_order : Stmt := top 18
abbrev s__law_pile_list : Stmt := top 19
abbrev s__law_due_least : Stmt := top 20
abbrev s__law_due_widest : Stmt := top 21
abbrev s__law_gap : Stmt := top 22
abbrev s__law_asked : Stmt := top 23
abbrev s__law_right : Stmt := top 24
abbrev s_law : Stmt := top 25
structure Bn (mg : Str → Option Value) : Prop where
  abs : mg "abs" = none
  bool : mg "bool" = none
  enumerate : mg "enumerate" = none
  int : mg "int" = none
  isinstance : mg "isinstance" = none
  len : mg "len" = none
  list : mg "list" = none
  max : mg "max" = none
  min : mg "min" = none
  range : mg "range" = none
  sorted : mg "sorted" = none
  str : mg "str" = none
  sum : mg "sum" = none
  tuple : mg "tuple" = none

section
variable {P : Program} {w : World} {K : PySem.W.Frag} {mg : Str → Option Value} {base : Heap}
theorem sc_least_name : FnScope N_least_name ["piles"] (defScope s_least_name) := ⟨rfl, rfl, rfl, by decide +kernel, rfl, by decide +kernel, by decide +kernel⟩
theorem f_least_name {f : Addr} {fd : FuncData} (F : Fun K "least_name" "least_name" s_least_name f fd) (B : Bn mg) : FnOk P w K mg base CX0 1 f fd ["piles"] (spD K 1 g_least_name) := by
  refine fn_ok0 (k := 0) (N := N_least_name) (m := m_least_name) (cvL []) [false] F sc_least_name rfl rfl (by decide) (fun cdv A outer s H E T as vs hr => ?_) (fun as r _ h => h)
  have hp := PassesOwn.never (M := model P w) (A := A.deeper (envOfC "least_name" (defScope s_least_name) s.heap.objs.size f cdv)) (env := envOfC "least_name" (defScope s_least_name) s.heap.objs.size f cdv)
  exact (pd_scons (pd_set (i := 1) (pd_un un_neg unB_neg pd_int) (fun _ h => ps_set sc_least_name.nd rfl (by first | exact Or.inl rfl | exact Or.inr rfl) h))
      (pd_scons (pd_for hp rfl (pd_enum (pd_var (pv 0)) rfl B.enumerate) (pd_gtup rfl (pd_gscons (pd_gname (pg_name (i := 2) sc_least_name.nd rfl (by first | exact Or.inl rfl | exact Or.inr rfl))) (pd_gscons (pd_gname (pg_name (i := 3) sc_least_name.nd rfl (by first | exact Or.inl rfl | exact Or.inr rfl))) pd_gsnil))) (pd_sone (pd_if (PW.pt (pw_dand (DL.pt_cmp op_ge (opS_of opB_cmpI) (nomark _) (pd_var (pv 3)) pd_int) (pw_dand1 (PW.pt (pw_dor (DL.pt_cmp (opR_lt hr.units0) (opS_of opB_lt) (nomark _) (pd_var (pv 1)) pd_int) (pw_dor1 (DL.pt_cmp (opR_lt hr.units0) (opS_of opB_lt) (nomark _) (pd_var (pv 3)) (pd_ix (pd_var (pv 0)) (pd_var (pv 1)))))))))) (pd_sone (pd_set (i := 1) (pd_var (pv 2)) (fun _ h => ps_set sc_least_name.nd rfl (by first | exact Or.inl rfl | exact Or.inr rfl) h))) pd_snil)))
      (pd_sone (pd_ret (pd_var (pv 1))))))
theorem w_least_name {f : Addr} {fd : FuncData} (F : Fun K "least_name" "least_name" s_least_name f fd) (B : Bn mg) (hk : mg "least_name" = some (.ref f)) (kp : PySem.W.keepIn K (.ref f) = true) (bi : Binds K fd ["piles"] []) : CalD P w K mg base CX0 1 "least_name" 1 g_least_name := ⟨f, fd, _, f_least_name F B, hk, kp, bi⟩

theorem sc_keys_in : FnScope N_keys_in ["piles"] (defScope s_keys_in) := ⟨rfl, rfl, rfl, by decide +kernel, rfl, by decide +kernel, by decide +kernel⟩
theorem f_keys_in {f : Addr} {fd : FuncData} (F : Fun K "keys_in" "keys_in" s_keys_in f fd) (B : Bn mg) : FnOk P w K mg base CX0 1 f fd ["piles"] (spD K 1 g_keys_in) := by
  refine fn_ok0 (k := 0) (N := N_keys_in) (m := m_keys_in) (cvL [1, 2]) [false] F sc_keys_in rfl rfl (by decide) (fun cdv A outer s H E T as vs hr => ?_) (fun as r _ h => h)
  have hp := PassesOwn.never (M := model P w) (A := A.deeper (envOfC "keys_in" (defScope s_keys_in) s.heap.objs.size f cdv)) (env := envOfC "keys_in" (defScope s_keys_in) s.heap.objs.size f cdv)
  exact (pd_sone (pd_ret (pd_biR callB_sortedIP (pe_callB cr_sortedIP rfl B.sorted b_sorted (pd_cons (pd_lc (own := [("name", 1), ("pile", 2)]) rfl sc_keys_in.nd (pd_enum (pd_var (pv 0)) rfl B.enumerate) (blkOk_by (own := [("name", 1), ("pile", 2)]) (N := N_keys_in) (sc := defScope s_keys_in) (by decide +kernel)) (own2 ⟨rfl, rfl⟩ ⟨rfl, rfl⟩) (fun _ _ _ _ _ => pg_TL rfl (pgs_cons (pg_name (i := 1) sc_keys_in.nd rfl (by first | exact Or.inl rfl | exact Or.inr rfl)) (pgs_cons (pg_name (i := 2) sc_keys_in.nd rfl (by first | exact Or.inl rfl | exact Or.inr rfl)) pgs_nil))) (cg_TL (cgs_cons (cg_name (ns := [1, 2]) ⟨rfl, rfl⟩ (by simp)) (cgs_cons (cg_name (ns := [1, 2]) ⟨rfl, rfl⟩ (by simp)) cgs_nil))) (fun _ _ _ _ _ => (pts_one (DL.pt_cmp op_ge (opS_of opB_cmpI) (nomark _) (pd_var (pv 2)) pd_int))) (fun _ _ _ _ _ => (pd_tup (pd_cons (pd_var (pv 2)) (pd_cons (pd_var (pv 1)) pd_nil))))) pd_nil)))))
theorem w_keys_in {f : Addr} {fd : FuncData} (F : Fun K "keys_in" "keys_in" s_keys_in f fd) (B : Bn mg) (hk : mg "keys_in" = some (.ref f)) (kp : PySem.W.keepIn K (.ref f) = true) (bi : Binds K fd ["piles"] []) : CalD P w K mg base CX0 1 "keys_in" 1 g_keys_in := ⟨f, fd, _, f_keys_in F B, hk, kp, bi⟩

theorem sc_batch_sizes : FnScope N_batch_sizes ["keys"] (defScope s_batch_sizes) := ⟨rfl, rfl, rfl, by decide +kernel, rfl, by decide +kernel, by decide +kernel⟩
theorem f_batch_sizes {f : Addr} {fd : FuncData} (F : Fun K "batch_sizes" "batch_sizes" s_batch_sizes f fd) (B : Bn mg) : FnOk P w K mg base CX0 1 f fd ["keys"] (spD K 1 g_batch_sizes) := by
  refine fn_ok0 (k := 0) (N := N_batch_sizes) (m := m_batch_sizes) (cvL []) [false] F sc_batch_sizes rfl rfl (by decide) (fun cdv A outer s H E T as vs hr => ?_) (fun as r _ h => h)
  have hp := PassesOwn.never (M := model P w) (A := A.deeper (envOfC "batch_sizes" (defScope s_batch_sizes) s.heap.objs.size f cdv)) (env := envOfC "batch_sizes" (defScope s_batch_sizes) s.heap.objs.size f cdv)
  exact (pd_scons (pd_set (i := 1) (pd_lst pd_nil) (fun _ h => ps_set sc_batch_sizes.nd rfl (by first | exact Or.inl rfl | exact Or.inr rfl) h))
      (pd_scons (pd_set (i := 2) pd_int (fun _ h => ps_set sc_batch_sizes.nd rfl (by first | exact Or.inl rfl | exact Or.inr rfl) h))
      (pd_scons (pd_set (i := 3) (pd_un un_neg unB_neg pd_int) (fun _ h => ps_set sc_batch_sizes.nd rfl (by first | exact Or.inl rfl | exact Or.inr rfl) h))
      (pd_scons (pd_for hp rfl (pd_range2 pd_int (pd_biR callB_len (pe_callB call_len rfl B.len b_len (pd_cons (pd_var (pv 0)) pd_nil))) rfl B.range) (pd_gname (pg_name (i := 4) sc_batch_sizes.nd rfl (by first | exact Or.inl rfl | exact Or.inr rfl))) (pd_scons (pd_asg (pd_ix (pd_var (pv 0)) (pd_bin op_sub (opS_of opB_sub) (pd_var (pv 4)) pd_int)) (pd_gtup rfl (pd_gscons (pd_gname (pg_name (i := 5) sc_batch_sizes.nd rfl (by first | exact Or.inl rfl | exact Or.inr rfl))) (pd_gscons (pd_gname (pg_name (i := 6) sc_batch_sizes.nd rfl (by first | exact Or.inl rfl | exact Or.inr rfl))) pd_gsnil))))
      (pd_scons (pd_aug (i := 2) (f := fAddI) ipB_I (pd_var (pv 5)) (ps_aug sc_batch_sizes.nd rfl (by first | exact Or.inl rfl | exact Or.inr rfl) (pd_var (pv 5)) ip_add))
      (pd_scons (pd_set (i := 3) (pd_biR callB_max (pe_callB (call_max' rfl) rfl B.max b_max (pd_cons (pd_var (pv 3)) (pd_cons (pd_var (pv 6)) pd_nil)))) (fun _ h => ps_set sc_batch_sizes.nd rfl (by first | exact Or.inl rfl | exact Or.inr rfl) h))
      (pd_sone (pd_if (DL.pt_cmp (opR_lt hr.units0) (opS_of opB_lt) (nomark _) (pd_tup (pd_cons (pd_var (pv 2)) (pd_cons (pd_var (pv 3)) pd_nil))) (pd_ix (pd_var (pv 0)) (pd_var (pv 4)))) (pd_sone (pd_expr (pd_meth mtS_append (pd_cons (pd_var (pv 4)) pd_nil) (fun _ h => pe_bm PySem.F.plainAttrs_list PySem.F.slot_list_append PySem.F.type_list_append mt_append (pv 1) h)))) pd_snil))))))
      (pd_sone (pd_ret (pd_var (pv 1))))))))
theorem w_batch_sizes {f : Addr} {fd : FuncData} (F : Fun K "batch_sizes" "batch_sizes" s_batch_sizes f fd) (B : Bn mg) (hk : mg "batch_sizes" = some (.ref f)) (kp : PySem.W.keepIn K (.ref f) = true) (bi : Binds K fd ["keys"] []) : CalD P w K mg base CX0 1 "batch_sizes" 1 g_batch_sizes := ⟨f, fd, _, f_batch_sizes F B, hk, kp, bi⟩

theorem sc_widest_batch : FnScope N_widest_batch ["piles"] (defScope s_widest_batch) := ⟨rfl, rfl, rfl, by decide +kernel, rfl, by decide +kernel, by decide +kernel⟩
theorem f_widest_batch {f : Addr} {fd : FuncData} (F : Fun K "widest_batch" "widest_batch" s_widest_batch f fd) (B : Bn mg) (C_batch_sizes : CalD P w K mg base CX0 1 "batch_sizes" 1 g_batch_sizes) (C_keys_in : CalD P w K mg base CX0 1 "keys_in" 1 g_keys_in) : FnOk P w K mg base CX0 2 f fd ["piles"] (spD K 1 g_widest_batch) := by
  refine fn_ok0 (k := 1) (N := N_widest_batch) (m := m_widest_batch) (cvL []) [false] F sc_widest_batch rfl rfl (by decide) (fun cdv A outer s H E T as vs hr => ?_) (fun as r _ h => h)
  have hp := PassesOwn.never (M := model P w) (A := A.deeper (envOfC "widest_batch" (defScope s_widest_batch) s.heap.objs.size f cdv)) (env := envOfC "widest_batch" (defScope s_widest_batch) s.heap.objs.size f cdv)
  exact (pd_scons (pd_set (i := 1) (pd_callP C_batch_sizes hr (by decide) passAt0 rfl (pd_cons (pd_callP C_keys_in hr (by decide) passAt0 rfl (pd_cons (pd_var (pv 0)) pd_nil)) pd_nil)) (fun _ h => ps_set sc_widest_batch.nd rfl (by first | exact Or.inl rfl | exact Or.inr rfl) h))
      (pd_scons (pd_if (DL.pt_cmp (opR_eq hr.units) (opS_of opB_eq) (nomark _) (pd_biR callB_len (pe_callB call_len rfl B.len b_len (pd_cons (pd_var (pv 1)) pd_nil))) pd_int) (pd_sone (pd_ret pd_int)) pd_snil)
      (pd_sone (pd_ret (pd_ix (pd_var (pv 1)) (pd_un un_neg unB_neg pd_int))))))
theorem w_widest_batch {f : Addr} {fd : FuncData} (F : Fun K "widest_batch" "widest_batch" s_widest_batch f fd) (B : Bn mg) (C_batch_sizes : CalD P w K mg base CX0 1 "batch_sizes" 1 g_batch_sizes) (C_keys_in : CalD P w K mg base CX0 1 "keys_in" 1 g_keys_in) (hk : mg "widest_batch" = some (.ref f)) (kp : PySem.W.keepIn K (.ref f) = true) (bi : Binds K fd ["piles"] []) : CalD P w K mg base CX0 2 "widest_batch" 1 g_widest_batch := ⟨f, fd, _, f_widest_batch F B C_batch_sizes C_keys_in, hk, kp, bi⟩

theorem sc__law_mix : FnScope N__law_mix ["one", "two"] (defScope s__law_mix) := ⟨rfl, rfl, rfl, by decide +kernel, rfl, by decide +kernel, by decide +kernel⟩
theorem f__law_mix {f : Addr} {fd : FuncData} (F : Fun K "_law_mix" "_law_mix" s__law_mix f fd) (B : Bn mg) : FnOk P w K mg base CX0 1 f fd ["one", "two"] (spD K 2 g__law_mix) := by
  refine fn_ok0 (k := 0) (N := N__law_mix) (m := m__law_mix) (cvL []) [false, false] F sc__law_mix rfl rfl (by decide) (fun cdv A outer s H E T as vs hr => ?_) (fun as r _ h => h)
  have hp := PassesOwn.never (M := model P w) (A := A.deeper (envOfC "_law_mix" (defScope s__law_mix) s.heap.objs.size f cdv)) (env := envOfC "_law_mix" (defScope s__law_mix) s.heap.objs.size f cdv)
  exact (pd_scons (pd_set (i := 2) (pd_bin op_mod (opS_of opB_mod) (pd_bin opR_add (opS_of opB_add) (pd_bin opR_add (opS_of opB_add) (pd_bin opR_mul (opS_of opB_mul) (pd_biR callB_int (pe_callTy call_int1 rfl B.int b_int (pd_cons (pd_var (pv 0)) pd_nil))) pd_int) (pd_bin opR_mul (opS_of opB_mul) (pd_biR callB_int (pe_callTy call_int1 rfl B.int b_int (pd_cons (pd_var (pv 1)) pd_nil))) pd_int)) pd_int) pd_int) (fun _ h => ps_set sc__law_mix.nd rfl (by first | exact Or.inl rfl | exact Or.inr rfl) h))
      (pd_scons (pd_set (i := 3) (pd_bin op_mod (opS_of opB_mod) (pd_bin opR_add (opS_of opB_add) (pd_bin opR_add (opS_of opB_add) (pd_bin opR_mul (opS_of opB_mul) (pd_var (pv 2)) (pd_var (pv 2))) (pd_bin opR_mul (opS_of opB_mul) (pd_biR callB_int (pe_callTy call_int1 rfl B.int b_int (pd_cons (pd_var (pv 1)) pd_nil))) pd_int)) pd_int) pd_int) (fun _ h => ps_set sc__law_mix.nd rfl (by first | exact Or.inl rfl | exact Or.inr rfl) h))
      (pd_scons (pd_set (i := 4) (pd_bin opR_add (opS_of opB_add) (pd_bin opR_div (opS_of opB_div) (pd_var (pv 3)) pd_int) (pd_bin opR_mul (opS_of opB_mul) (pd_bin op_mod (opS_of opB_mod) (pd_var (pv 3)) pd_int) pd_int)) (fun _ h => ps_set sc__law_mix.nd rfl (by first | exact Or.inl rfl | exact Or.inr rfl) h))
      (pd_sone (pd_ret (pd_bin op_mod (opS_of opB_mod) (pd_bin opR_mul (opS_of opB_mul) (pd_var (pv 4)) pd_int) pd_int))))))
theorem w__law_mix {f : Addr} {fd : FuncData} (F : Fun K "_law_mix" "_law_mix" s__law_mix f fd) (B : Bn mg) (hk : mg "_law_mix" = some (.ref f)) (kp : PySem.W.keepIn K (.ref f) = true) (bi : Binds K fd ["one", "two"] []) : CalD P w K mg base CX0 1 "_law_mix" 2 g__law_mix := ⟨f, fd, _, f__law_mix F B, hk, kp, bi⟩

theorem sc__law_store : FnScope N__law_store ["script"] (defScope s__law_store) := ⟨rfl, rfl, rfl, by decide +kernel, rfl, by decide +kernel, by decide +kernel⟩
theorem f__law_store {f : Addr} {fd : FuncData} (F : Fun K "_law_store" "_law_store" s__law_store f fd) (B : Bn mg) (C__law_mix : CalD P w K mg base CX0 1 "_law_mix" 2 g__law_mix) : FnOk P w K mg base CX0 2 f fd ["script"] (spD K 1 g__law_store) := by
  refine fn_ok0 (k := 1) (N := N__law_store) (m := m__law_store) (cvL []) [false] F sc__law_store rfl rfl (by decide) (fun cdv A outer s H E T as vs hr => ?_) (fun as r _ h => h)
  have hp := PassesOwn.never (M := model P w) (A := A.deeper (envOfC "_law_store" (defScope s__law_store) s.heap.objs.size f cdv)) (env := envOfC "_law_store" (defScope s__law_store) s.heap.objs.size f cdv)
  exact (pd_scons (pd_set (i := 1) (pd_bin op_pow (opS_of opB_pow) pd_int pd_int) (fun _ h => ps_set sc__law_store.nd rfl (by first | exact Or.inl rfl | exact Or.inr rfl) h))
      (pd_scons (pd_set (i := 1) (pd_bin opR_mul (opS_of opB_mul) (pd_bin opR_mul (opS_of opB_mul) (pd_bin opR_mul (opS_of opB_mul) (pd_bin opR_mul (opS_of opB_mul) (pd_var (pv 1)) (pd_var (pv 1))) (pd_var (pv 1))) (pd_var (pv 1))) (pd_var (pv 1))) (fun _ h => ps_set sc__law_store.nd rfl (by first | exact Or.inl rfl | exact Or.inr rfl) h))
      (pd_scons (pd_set (i := 2) (pd_lst pd_nil) (fun _ h => ps_set sc__law_store.nd rfl (by first | exact Or.inl rfl | exact Or.inr rfl) h))
      (pd_scons (pd_set (i := 3) pd_int (fun _ h => ps_set sc__law_store.nd rfl (by first | exact Or.inl rfl | exact Or.inr rfl) h))
      (pd_scons (pd_for hp rfl (pd_seq (pd_slice (pd_var (pv 0)) pd_po0 (pd_po pd_int))) (pd_gname (pg_name (i := 4) sc__law_store.nd rfl (by first | exact Or.inl rfl | exact Or.inr rfl))) (pd_scons (pd_set (i := 5) (pd_bin op_mod (opS_of opB_mod) (pd_biR callB_abs (pe_callB call_abs rfl B.abs b_abs (pd_cons (pd_biR callB_int (pe_callTy call_int1 rfl B.int b_int (pd_cons (pd_var (pv 4)) pd_nil))) pd_nil))) (pd_var (pv 1))) (fun _ h => ps_set sc__law_store.nd rfl (by first | exact Or.inl rfl | exact Or.inr rfl) h))
      (pd_scons (pd_if (DL.pt_cmp (opR_lt hr.units0) (opS_of opB_lt) (nomark _) (pd_var (pv 4)) pd_int) (pd_sone (pd_set (i := 3) (pd_bin opR_add (opS_of opB_add) (pd_var (pv 3)) pd_int) (fun _ h => ps_set sc__law_store.nd rfl (by first | exact Or.inl rfl | exact Or.inr rfl) h))) pd_snil)
      (pd_scons (pd_set (i := 3) (pd_callP C__law_mix hr (by decide) passAt0 rfl (pd_cons (pd_var (pv 3)) (pd_cons (pd_var (pv 5)) pd_nil))) (fun _ h => ps_set sc__law_store.nd rfl (by first | exact Or.inl rfl | exact Or.inr rfl) h))
      (pd_sone (pd_expr (pd_meth mtS_append (pd_cons (pd_var (pv 5)) pd_nil) (fun _ h => pe_bm PySem.F.plainAttrs_list PySem.F.slot_list_append PySem.F.type_list_append mt_append (pv 2) h))))))))
      (pd_sone (pd_ret (pd_lst (pd_cons (pd_var (pv 2)) (pd_cons pd_int (pd_cons pd_int (pd_cons pd_int (pd_cons pd_int (pd_cons pd_int (pd_cons (pd_var (pv 3)) pd_nil)))))))))))))))
theorem w__law_store {f : Addr} {fd : FuncData} (F : Fun K "_law_store" "_law_store" s__law_store f fd) (B : Bn mg) (C__law_mix : CalD P w K mg base CX0 1 "_law_mix" 2 g__law_mix) (hk : mg "_law_store" = some (.ref f)) (kp : PySem.W.keepIn K (.ref f) = true) (bi : Binds K fd ["script"] []) : CalD P w K mg base CX0 2 "_law_store" 1 g__law_store := ⟨f, fd, _, f__law_store F B C__law_mix, hk, kp, bi⟩

theorem sc__law_next : FnScope N__law_next ["store"] (defScope s__law_next) := ⟨rfl, rfl, rfl, by decide +kernel, rfl, by decide +kernel, by decide +kernel⟩
theorem f__law_next {f : Addr} {fd : FuncData} (F : Fun K "_law_next" "_law_next" s__law_next f fd) (B : Bn mg) (C__law_mix : CalD P w K mg base CX0 1 "_law_mix" 2 g__law_mix) : FnOk P w K mg base CX0 2 f fd ["store"] (spD K 1 g__law_next) := by
  refine fn_ok0 (k := 1) (N := N__law_next) (m := m__law_next) (cvL []) [true] F sc__law_next rfl rfl (by decide) (fun cdv A outer s H E T as vs hr => ?_) (fun as r _ h => h)
  have hp := PassesOwn.never (M := model P w) (A := A.deeper (envOfC "_law_next" (defScope s__law_next) s.heap.objs.size f cdv)) (env := envOfC "_law_next" (defScope s__law_next) s.heap.objs.size f cdv)
  exact (pd_scons (pd_setAt (pv 0) pd_int pd_int)
      (pd_scons (pd_setAt (pv 0) pd_int pd_int)
      (pd_scons (pd_setAt (pv 0) pd_int (pd_ix (pd_var (pv 0)) pd_int))
      (pd_sone (pd_if (DL.pt_cmp (opR_lt hr.units0) (opS_of opB_lt) (nomark _) (pd_ix (pd_var (pv 0)) pd_int) (pd_biR callB_len (pe_callB call_len rfl B.len b_len (pd_cons (pd_ix (pd_var (pv 0)) pd_int) pd_nil)))) (pd_scons (pd_set (i := 1) (pd_ix (pd_var (pv 0)) pd_int) (fun _ h => ps_set sc__law_next.nd rfl (by first | exact Or.inl rfl | exact Or.inr rfl) h))
      (pd_scons (pd_set (i := 2) (pd_ix (pd_var (pv 1)) (pd_ix (pd_var (pv 0)) pd_int)) (fun _ h => ps_set sc__law_next.nd rfl (by first | exact Or.inl rfl | exact Or.inr rfl) h))
      (pd_scons (pd_setAt (pv 0) pd_int (pd_callP C__law_mix hr (by decide) passAt0 rfl (pd_cons (pd_bin opR_add (opS_of opB_add) (pd_ix (pd_var (pv 0)) pd_int) (pd_ix (pd_var (pv 0)) pd_int)) (pd_cons (pd_var (pv 2)) pd_nil))))
      (pd_scons (pd_setAt (pv 0) pd_int pd_int)
      (pd_scons (pd_if (DL.pt_cmp op_ge (opS_of opB_cmpI) (nomark _) (pd_var (pv 2)) (pd_bin op_pow (opS_of opB_pow) pd_int pd_int)) (pd_scons (pd_setAt (pv 0) pd_int (pd_var (pv 2)))
      (pd_sone (pd_setAt (pv 0) pd_int pd_int))) pd_snil)
      (pd_sone (pd_setAt (pv 0) pd_int (pd_bin opR_add (opS_of opB_add) (pd_ix (pd_var (pv 0)) pd_int) pd_int)))))))) pd_snil)))))
theorem w__law_next {f : Addr} {fd : FuncData} (F : Fun K "_law_next" "_law_next" s__law_next f fd) (B : Bn mg) (C__law_mix : CalD P w K mg base CX0 1 "_law_mix" 2 g__law_mix) (hk : mg "_law_next" = some (.ref f)) (kp : PySem.W.keepIn K (.ref f) = true) (bi : Binds K fd ["store"] []) : CalD P w K mg base CX0 2 "_law_next" 1 g__law_next := ⟨f, fd, _, f__law_next F B C__law_mix, hk, kp, bi⟩

theorem sc__law_take : FnScope N__law_take ["store", "many"] (defScope s__law_take) := ⟨rfl, rfl, rfl, by decide +kernel, rfl, by decide +kernel, by decide +kernel⟩
theorem f__law_take {f : Addr} {fd : FuncData} (F : Fun K "_law_take" "_law_take" s__law_take f fd) (B : Bn mg) (C__law_next : CalD P w K mg base CX0 2 "_law_next" 1 g__law_next) (C__law_mix : CalD P w K mg base CX0 1 "_law_mix" 2 g__law_mix) : FnOk P w K mg base CX0 3 f fd ["store", "many"] (spD K 2 g__law_take) := by
  refine fn_ok0 (k := 2) (N := N__law_take) (m := m__law_take) (cvL []) [true, false] F sc__law_take rfl rfl (by decide) (fun cdv A outer s H E T as vs hr => ?_) (fun as r _ h => h)
  have hp := PassesOwn.never (M := model P w) (A := A.deeper (envOfC "_law_take" (defScope s__law_take) s.heap.objs.size f cdv)) (env := envOfC "_law_take" (defScope s__law_take) s.heap.objs.size f cdv)
  exact (pd_scons (pd_if (DL.pt_cmp (opR_lt hr.units0) (opS_of opB_lt) (nomark _) (pd_var (pv 1)) pd_int) (pd_sone (pd_ret pd_int)) pd_snil)
      (pd_scons (pd_if (PW.pt (pw_dand (DL.pt_cmp (opR_lt hr.units0) (opS_of opB_lt) (nomark _) (pd_ix (pd_var (pv 0)) pd_int) pd_int) (pw_dand1 (DL.pt_cmp (opR_lt hr.units0) (opS_of opB_lt) (nomark _) (pd_ix (pd_var (pv 0)) pd_int) pd_int)))) (pd_sone (pd_expr (pd_call [true] C__law_next hr (by decide) passAt0 rfl (pd_cons (pd_var (pv 0)) pd_nil)))) pd_snil)
      (pd_scons (pd_if (DL.pt_cmp op_gt (opS_of opB_cmpI) (nomark _) (pd_ix (pd_var (pv 0)) pd_int) pd_int) (pd_scons (pd_set (i := 2) (pd_bin op_mod (opS_of opB_mod) (pd_biR callB_int (pe_callTy call_int1 rfl B.int b_int (pd_cons (pd_ix (pd_var (pv 0)) pd_int) pd_nil))) (pd_var (pv 1))) (fun _ h => ps_set sc__law_take.nd rfl (by first | exact Or.inl rfl | exact Or.inr rfl) h))
      (pd_scons (pd_setAt (pv 0) pd_int (pd_bin opR_div (opS_of opB_div) (pd_ix (pd_var (pv 0)) pd_int) (pd_var (pv 1))))
      (pd_sone (pd_ret (pd_var (pv 2)))))) pd_snil)
      (pd_scons (pd_setAt (pv 0) pd_int (pd_bin op_sub (opS_of opB_sub) (pd_ix (pd_var (pv 0)) pd_int) pd_int))
      (pd_scons (pd_setAt (pv 0) pd_int (pd_bin opR_add (opS_of opB_add) (pd_ix (pd_var (pv 0)) pd_int) pd_int))
      (pd_scons (pd_set (i := 3) (pd_callP C__law_mix hr (by decide) passAt0 rfl (pd_cons (pd_callP C__law_mix hr (by decide) passAt0 rfl (pd_cons (pd_ix (pd_var (pv 0)) pd_int) (pd_cons (pd_ix (pd_var (pv 0)) pd_int) pd_nil))) (pd_cons (pd_bin opR_add (opS_of opB_add) (pd_ix (pd_var (pv 0)) pd_int) pd_int) pd_nil))) (fun _ h => ps_set sc__law_take.nd rfl (by first | exact Or.inl rfl | exact Or.inr rfl) h))
      (pd_scons (pd_set (i := 4) pd_int (fun _ h => ps_set sc__law_take.nd rfl (by first | exact Or.inl rfl | exact Or.inr rfl) h))
      (pd_scons (pd_for hp rfl (pd_range1 pd_int rfl B.range) (pd_gname (pg_name (i := 5) sc__law_take.nd rfl (by first | exact Or.inl rfl | exact Or.inr rfl))) (pd_sone (pd_if (DL.pt_cmp (opR_lt hr.units0) (opS_of opB_lt) (nomark _) (pd_var (pv 4)) (pd_bin opR_mul (opS_of opB_mul) (pd_var (pv 1)) pd_int)) (pd_scons (pd_set (i := 3) (pd_bin opR_add (opS_of opB_add) (pd_bin opR_mul (opS_of opB_mul) (pd_var (pv 3)) pd_int) (pd_callP C__law_mix hr (by decide) passAt0 rfl (pd_cons (pd_var (pv 3)) (pd_cons (pd_bin opR_add (opS_of opB_add) (pd_bin opR_mul (opS_of opB_mul) (pd_ix (pd_var (pv 0)) pd_int) pd_int) (pd_var (pv 5))) pd_nil)))) (fun _ h => ps_set sc__law_take.nd rfl (by first | exact Or.inl rfl | exact Or.inr rfl) h))
      (pd_sone (pd_set (i := 4) (pd_bin opR_mul (opS_of opB_mul) (pd_var (pv 4)) pd_int) (fun _ h => ps_set sc__law_take.nd rfl (by first | exact Or.inl rfl | exact Or.inr rfl) h)))) pd_snil)))
      (pd_sone (pd_ret (pd_bin op_mod (opS_of opB_mod) (pd_biR callB_int (pe_callTy call_int1 rfl B.int b_int (pd_cons (pd_var (pv 3)) pd_nil))) (pd_var (pv 1)))))))))))))
theorem w__law_take {f : Addr} {fd : FuncData} (F : Fun K "_law_take" "_law_take" s__law_take f fd) (B : Bn mg) (C__law_next : CalD P w K mg base CX0 2 "_law_next" 1 g__law_next) (C__law_mix : CalD P w K mg base CX0 1 "_law_mix" 2 g__law_mix) (hk : mg "_law_take" = some (.ref f)) (kp : PySem.W.keepIn K (.ref f) = true) (bi : Binds K fd ["store", "many"] []) : CalD P w K mg base CX0 3 "_law_take" 2 g__law_take := ⟨f, fd, _, f__law_take F B C__law_next C__law_mix, hk, kp, bi⟩

theorem sc__law_rare : FnScope N__law_rare ["store", "many"] (defScope s__law_rare) := ⟨rfl, rfl, rfl, by decide +kernel, rfl, by decide +kernel, by decide +kernel⟩
theorem f__law_rare {f : Addr} {fd : FuncData} (F : Fun K "_law_rare" "_law_rare" s__law_rare f fd) (B : Bn mg) (C__law_take : CalD P w K mg base CX0 3 "_law_take" 2 g__law_take) : FnOk P w K mg base CX0 4 f fd ["store", "many"] (spD K 2 g__law_rare) := by
  refine fn_ok0 (k := 3) (N := N__law_rare) (m := m__law_rare) (cvL []) [true, false] F sc__law_rare rfl rfl (by decide) (fun cdv A outer s H E T as vs hr => ?_) (fun as r _ h => h)
  have hp := PassesOwn.never (M := model P w) (A := A.deeper (envOfC "_law_rare" (defScope s__law_rare) s.heap.objs.size f cdv)) (env := envOfC "_law_rare" (defScope s__law_rare) s.heap.objs.size f cdv)
  exact (pd_sone (pd_ret (pd_cmp (opR_eq hr.units) (opS_of opB_eq) (nomark _) (pd_call [true, false] C__law_take hr (by decide) passAt0 rfl (pd_cons (pd_var (pv 0)) (pd_cons (pd_var (pv 1)) pd_nil))) pd_int)))
theorem w__law_rare {f : Addr} {fd : FuncData} (F : Fun K "_law_rare" "_law_rare" s__law_rare f fd) (B : Bn mg) (C__law_take : CalD P w K mg base CX0 3 "_law_take" 2 g__law_take) (hk : mg "_law_rare" = some (.ref f)) (kp : PySem.W.keepIn K (.ref f) = true) (bi : Binds K fd ["store", "many"] []) : CalD P w K mg base CX0 4 "_law_rare" 2 g__law_rare := ⟨f, fd, _, f__law_rare F B C__law_take, hk, kp, bi⟩

theorem sc__law_pick : FnScope N__law_pick ["store", "things"] (defScope s__law_pick) := ⟨rfl, rfl, rfl, by decide +kernel, rfl, by decide +kernel, by decide +kernel⟩
theorem f__law_pick {f : Addr} {fd : FuncData} (F : Fun K "_law_pick" "_law_pick" s__law_pick f fd) (B : Bn mg) (C__law_take : CalD P w K mg base CX0 3 "_law_take" 2 g__law_take) : FnOk P w K mg base CX0 4 f fd ["store", "things"] (spD K 2 g__law_pick) := by
  refine fn_ok0 (k := 3) (N := N__law_pick) (m := m__law_pick) (cvL []) [true, false] F sc__law_pick rfl rfl (by decide) (fun cdv A outer s H E T as vs hr => ?_) (fun as r _ h => h)
  have hp := PassesOwn.never (M := model P w) (A := A.deeper (envOfC "_law_pick" (defScope s__law_pick) s.heap.objs.size f cdv)) (env := envOfC "_law_pick" (defScope s__law_pick) s.heap.objs.size f cdv)
  exact (pd_sone (pd_ret (pd_ix (pd_var (pv 1)) (pd_call [true, false] C__law_take hr (by decide) passAt0 rfl (pd_cons (pd_var (pv 0)) (pd_cons (pd_biR callB_len (pe_callB call_len rfl B.len b_len (pd_cons (pd_var (pv 1)) pd_nil))) pd_nil))))))
theorem w__law_pick {f : Addr} {fd : FuncData} (F : Fun K "_law_pick" "_law_pick" s__law_pick f fd) (B : Bn mg) (C__law_take : CalD P w K mg base CX0 3 "_law_take" 2 g__law_take) (hk : mg "_law_pick" = some (.ref f)) (kp : PySem.W.keepIn K (.ref f) = true) (bi : Binds K fd ["store", "things"] []) : CalD P w K mg base CX0 4 "_law_pick" 2 g__law_pick := ⟨f, fd, _, f__law_pick F B C__law_take, hk, kp, bi⟩

theorem sc__law_upto : FnScope N__law_upto ["store", "top"] (defScope s__law_upto) := ⟨rfl, rfl, rfl, by decide +kernel, rfl, by decide +kernel, by decide +kernel⟩
theorem f__law_upto {f : Addr} {fd : FuncData} (F : Fun K "_law_upto" "_law_upto" s__law_upto f fd) (B : Bn mg) (C__law_take : CalD P w K mg base CX0 3 "_law_take" 2 g__law_take) : FnOk P w K mg base CX0 4 f fd ["store", "top"] (spD K 2 g__law_upto) := by
  refine fn_ok0 (k := 3) (N := N__law_upto) (m := m__law_upto) (cvL []) [true, false] F sc__law_upto rfl rfl (by decide) (fun cdv A outer s H E T as vs hr => ?_) (fun as r _ h => h)
  have hp := PassesOwn.never (M := model P w) (A := A.deeper (envOfC "_law_upto" (defScope s__law_upto) s.heap.objs.size f cdv)) (env := envOfC "_law_upto" (defScope s__law_upto) s.heap.objs.size f cdv)
  exact (pd_scons (pd_set (i := 2) (pd_call [true, false] C__law_take hr (by decide) passAt0 rfl (pd_cons (pd_var (pv 0)) (pd_cons pd_int pd_nil))) (fun _ h => ps_set sc__law_upto.nd rfl (by first | exact Or.inl rfl | exact Or.inr rfl) h))
      (pd_scons (pd_if (DL.pt_cmp (opR_eq hr.units) (opS_of opB_eq) (nomark _) (pd_var (pv 2)) pd_int) (pd_sone (pd_ret pd_int)) pd_snil)
      (pd_scons (pd_if (DL.pt_cmp (opR_lt hr.units0) (opS_of opB_lt) (nomark _) (pd_var (pv 2)) pd_int) (pd_sone (pd_ret (pd_biR callB_max (pe_callB (call_max' rfl) rfl B.max b_max (pd_cons pd_int (pd_cons (pd_bin op_sub (opS_of opB_sub) (pd_bin opR_add (opS_of opB_add) (pd_var (pv 1)) pd_int) (pd_var (pv 2))) pd_nil)))))) pd_snil)
      (pd_scons (pd_if (DL.pt_cmp (opR_lt hr.units0) (opS_of opB_lt) (nomark _) (pd_var (pv 2)) pd_int) (pd_sone (pd_ret (pd_biR callB_min (pe_callB (call_min' rfl) rfl B.min b_min (pd_cons (pd_var (pv 1)) (pd_cons (pd_call [true, false] C__law_take hr (by decide) passAt0 rfl (pd_cons (pd_var (pv 0)) (pd_cons pd_int pd_nil))) pd_nil)))))) pd_snil)
      (pd_scons (pd_if (DL.pt_cmp (opR_eq hr.units) (opS_of opB_eq) (nomark _) (pd_var (pv 2)) pd_int) (pd_sone (pd_ret (pd_biR callB_min (pe_callB (call_min' rfl) rfl B.min b_min (pd_cons (pd_var (pv 1)) (pd_cons (pd_call [true, false] C__law_take hr (by decide) passAt0 rfl (pd_cons (pd_var (pv 0)) (pd_cons pd_int pd_nil))) pd_nil)))))) pd_snil)
      (pd_scons (pd_set (i := 3) (pd_call [true, false] C__law_take hr (by decide) passAt0 rfl (pd_cons (pd_var (pv 0)) (pd_cons (pd_bin opR_add (opS_of opB_add) (pd_var (pv 1)) pd_int) pd_nil))) (fun _ h => ps_set sc__law_upto.nd rfl (by first | exact Or.inl rfl | exact Or.inr rfl) h))
      (pd_scons (pd_if (DL.pt_cmp (opR_eq hr.units) (opS_of opB_eq) (nomark _) (pd_var (pv 2)) pd_int) (pd_sone (pd_for hp rfl (pd_range1 (pd_call [true, false] C__law_take hr (by decide) passAt0 rfl (pd_cons (pd_var (pv 0)) (pd_cons pd_int pd_nil))) rfl B.range) (pd_gname (pg_name (i := 4) sc__law_upto.nd rfl (by first | exact Or.inl rfl | exact Or.inr rfl))) (pd_sone (pd_set (i := 3) (pd_bin opR_div (opS_of opB_div) (pd_var (pv 3)) pd_int) (fun _ h => ps_set sc__law_upto.nd rfl (by first | exact Or.inl rfl | exact Or.inr rfl) h))))) pd_snil)
      (pd_sone (pd_ret (pd_var (pv 3)))))))))))
theorem w__law_upto {f : Addr} {fd : FuncData} (F : Fun K "_law_upto" "_law_upto" s__law_upto f fd) (B : Bn mg) (C__law_take : CalD P w K mg base CX0 3 "_law_take" 2 g__law_take) (hk : mg "_law_upto" = some (.ref f)) (kp : PySem.W.keepIn K (.ref f) = true) (bi : Binds K fd ["store", "top"] []) : CalD P w K mg base CX0 4 "_law_upto" 2 g__law_upto := ⟨f, fd, _, f__law_upto F B C__law_take, hk, kp, bi⟩

theorem sc__law_kind : FnScope N__law_kind ["value"] (defScope s__law_kind) := ⟨rfl, rfl, rfl, by decide +kernel, rfl, by decide +kernel, by decide +kernel⟩
theorem f__law_kind {f : Addr} {fd : FuncData} (F : Fun K "_law_kind" "_law_kind" s__law_kind f fd) (B : Bn mg) : FnOk P w K mg base CX0 1 f fd ["value"] (spD K 1 g__law_kind) := by
  refine fn_ok0 (k := 0) (N := N__law_kind) (m := m__law_kind) (cvL []) [false] F sc__law_kind rfl rfl (by decide) (fun cdv A outer s H E T as vs hr => ?_) (fun as r _ h => h)
  have hp := PassesOwn.never (M := model P w) (A := A.deeper (envOfC "_law_kind" (defScope s__law_kind) s.heap.objs.size f cdv)) (env := envOfC "_law_kind" (defScope s__law_kind) s.heap.objs.size f cdv)
  exact (pd_scons (pd_if (DL.pt_cmp op_isN (opS_of opB_is) (nomark _) (pd_var (pv 0)) pd_non) (pd_sone (pd_ret pd_int)) pd_snil)
      (pd_scons (pd_if (pt_tru (pd_isi1 (T := .bl) (pd_var (pv 0)) (pe_bltn rfl B.bool b_bool rfl) rfl B.isinstance b_isinstance rfl (by decide) rfl rfl (fun _ h => pe_callB call_isi rfl B.isinstance b_isinstance h))) (pd_sone (pd_ret pd_int)) pd_snil)
      (pd_scons (pd_if (pt_tru (pd_isi1 (T := .int) (pd_var (pv 0)) (pe_bltn rfl B.int b_int rfl) rfl B.isinstance b_isinstance rfl (by decide) rfl rfl (fun _ h => pe_callB call_isi rfl B.isinstance b_isinstance h))) (pd_sone (pd_ret pd_int)) pd_snil)
      (pd_scons (pd_if (pt_tru (pd_isi1 (T := .str) (pd_var (pv 0)) (pe_bltn rfl B.str b_str rfl) rfl B.isinstance b_isinstance rfl (by decide) rfl rfl (fun _ h => pe_callB call_isi rfl B.isinstance b_isinstance h))) (pd_sone (pd_ret pd_int)) pd_snil)
      (pd_scons (pd_if (pt_tru (pd_isi1 (T := .lst) (pd_var (pv 0)) (pe_bltn rfl B.list b_list rfl) rfl B.isinstance b_isinstance rfl (by decide) rfl rfl (fun _ h => pe_callB call_isi rfl B.isinstance b_isinstance h))) (pd_sone (pd_ret pd_int)) pd_snil)
      (pd_scons (pd_if (pt_tru (pd_isi1 (T := .tup) (pd_var (pv 0)) (pe_bltn rfl B.tuple b_tuple rfl) rfl B.isinstance b_isinstance rfl (by decide) rfl rfl (fun _ h => pe_callB call_isi rfl B.isinstance b_isinstance h))) (pd_sone (pd_ret pd_int)) pd_snil)
      (pd_sone (pd_ret pd_int))))))))
theorem w__law_kind {f : Addr} {fd : FuncData} (F : Fun K "_law_kind" "_law_kind" s__law_kind f fd) (B : Bn mg) (hk : mg "_law_kind" = some (.ref f)) (kp : PySem.W.keepIn K (.ref f) = true) (bi : Binds K fd ["value"] []) : CalD P w K mg base CX0 1 "_law_kind" 1 g__law_kind := ⟨f, fd, _, f__law_kind F B, hk, kp, bi⟩

theorem sc__law_same : FnScope N__law_same ["one", "two"] (defScope s__law_same) := ⟨rfl, rfl, rfl, by decide +kernel, rfl, by decide +kernel, by decide +kernel⟩
theorem f__law_same {f : Addr} {fd : FuncData} (F : Fun K "_law_same" "_law_same" s__law_same f fd) (B : Bn mg) (C__law_kind : CalD P w K mg base CX0 1 "_law_kind" 1 g__law_kind) : FnOk P w K mg base CX0 2 f fd ["one", "two"] (spD K 2 g__law_same) := by
  refine fn_ok0 (k := 1) (N := N__law_same) (m := m__law_same) (cvL []) [false, false] F sc__law_same rfl rfl (by decide) (fun cdv A outer s H E T as vs hr => ?_) (fun as r _ h => h)
  have hp := PassesOwn.never (M := model P w) (A := A.deeper (envOfC "_law_same" (defScope s__law_same) s.heap.objs.size f cdv)) (env := envOfC "_law_same" (defScope s__law_same) s.heap.objs.size f cdv)
  exact (pd_scons (pd_set (i := 2) (pd_lst (pd_cons (pd_tup (pd_cons (pd_var (pv 0)) (pd_cons (pd_var (pv 1)) pd_nil))) pd_nil)) (fun _ h => ps_set sc__law_same.nd rfl (by first | exact Or.inl rfl | exact Or.inr rfl) h))
      (pd_scons (pd_for hp rfl (pd_range1 pd_int rfl B.range) (pd_gname (pg_name (i := 3) sc__law_same.nd rfl (by first | exact Or.inl rfl | exact Or.inr rfl))) (pd_scons (pd_if (DL.pt_cmp (opR_eq hr.units) (opS_of opB_eq) (nomark _) (pd_biR callB_len (pe_callB call_len rfl B.len b_len (pd_cons (pd_var (pv 2)) pd_nil))) pd_int) (pd_sone (pd_ret pd_bl)) pd_snil)
      (pd_scons (pd_set (i := 4) (pd_meth0 mtS_pop (pe_bm0 PySem.F.plainAttrs_list PySem.F.slot_list_pop PySem.F.type_list_pop mt_pop (pv 2))) (fun _ h => ps_set sc__law_same.nd rfl (by first | exact Or.inl rfl | exact Or.inr rfl) h))
      (pd_scons (pd_set (i := 5) (pd_callP C__law_kind hr (by decide) passAt0 rfl (pd_cons (pd_ix (pd_var (pv 4)) pd_int) pd_nil)) (fun _ h => ps_set sc__law_same.nd rfl (by first | exact Or.inl rfl | exact Or.inr rfl) h))
      (pd_scons (pd_if (PW.pt (pw_dor (DL.pt_cmp (opR_ne hr.units) (opS_of opB_ne) (nomark _) (pd_var (pv 5)) (pd_callP C__law_kind hr (by decide) passAt0 rfl (pd_cons (pd_ix (pd_var (pv 4)) pd_int) pd_nil))) (pw_dor1 (DL.pt_cmp (opR_eq hr.units) (opS_of opB_eq) (nomark _) (pd_var (pv 5)) pd_int)))) (pd_sone (pd_ret pd_bl)) pd_snil)
      (pd_sone (pd_if (DL.pt_cmp op_gt (opS_of opB_cmpI) (nomark _) (pd_var (pv 5)) pd_int) (pd_scons (pd_if (DL.pt_cmp (opR_ne hr.units) (opS_of opB_ne) (nomark _) (pd_biR callB_len (pe_callB call_len rfl B.len b_len (pd_cons (pd_ix (pd_var (pv 4)) pd_int) pd_nil))) (pd_biR callB_len (pe_callB call_len rfl B.len b_len (pd_cons (pd_ix (pd_var (pv 4)) pd_int) pd_nil)))) (pd_sone (pd_ret pd_bl)) pd_snil)
      (pd_sone (pd_for hp rfl (pd_range1 (pd_biR callB_len (pe_callB call_len rfl B.len b_len (pd_cons (pd_ix (pd_var (pv 4)) pd_int) pd_nil))) rfl B.range) (pd_gname (pg_name (i := 6) sc__law_same.nd rfl (by first | exact Or.inl rfl | exact Or.inr rfl))) (pd_sone (pd_expr (pd_meth mtS_append (pd_cons (pd_tup (pd_cons (pd_ix (pd_ix (pd_var (pv 4)) pd_int) (pd_var (pv 6))) (pd_cons (pd_ix (pd_ix (pd_var (pv 4)) pd_int) (pd_var (pv 6))) pd_nil))) pd_nil) (fun _ h => pe_bm PySem.F.plainAttrs_list PySem.F.slot_list_append PySem.F.type_list_append mt_append (pv 2) h))))))) (pd_sone (pd_if (PW.pt (pw_dand (DL.pt_cmp op_gt (opS_of opB_cmpI) (nomark _) (pd_var (pv 5)) pd_int) (pw_dand1 (DL.pt_cmp (opR_ne hr.units) (opS_of opB_ne) (nomark _) (pd_ix (pd_var (pv 4)) pd_int) (pd_ix (pd_var (pv 4)) pd_int))))) (pd_sone (pd_ret pd_bl)) pd_snil)))))))))
      (pd_sone (pd_ret pd_bl))))
theorem w__law_same {f : Addr} {fd : FuncData} (F : Fun K "_law_same" "_law_same" s__law_same f fd) (B : Bn mg) (C__law_kind : CalD P w K mg base CX0 1 "_law_kind" 1 g__law_kind) (hk : mg "_law_same" = some (.ref f)) (kp : PySem.W.keepIn K (.ref f) = true) (bi : Binds K fd ["one", "two"] []) : CalD P w K mg base CX0 2 "_law_same" 2 g__law_same := ⟨f, fd, _, f__law_same F B C__law_kind, hk, kp, bi⟩

theorem sc__law_copy : FnScope N__law_copy ["value", "form"] (defScope s__law_copy) := ⟨rfl, rfl, rfl, by decide +kernel, rfl, by decide +kernel, by decide +kernel⟩
theorem f__law_copy {f : Addr} {fd : FuncData} (F : Fun K "_law_copy" "_law_copy" s__law_copy f fd) (B : Bn mg) (hk : mg "_law_copy" = some (.ref f)) (kp : PySem.W.keepIn K (.ref f) = true) (bi : Binds K fd ["value", "form"] []) : ∀ j : Nat, FnOk P w K mg base CX0 (0 + j) f fd ["value", "form"] (spD K 2 (gN__law_copy j))
  | 0 => fn_none rfl
  | j + 1 => by
    have C__law_copy : CalD P w K mg base CX0 (0 + j) "_law_copy" 2 (gN__law_copy j) := ⟨f, fd, _, f__law_copy F B hk kp bi j, hk, kp, bi⟩
    refine fn_ok0 (k := 0 + j) (N := N__law_copy) (m := m__law_copy (gN__law_copy j)) (cvL [3]) [false, false] F sc__law_copy rfl rfl (by decide) (fun cdv A outer s H E T as vs hr => ?_) (fun as r _ h => h)
    have hp := PassesOwn.never (M := model P w) (A := A.deeper (envOfC "_law_copy" (defScope s__law_copy) s.heap.objs.size f cdv)) (env := envOfC "_law_copy" (defScope s__law_copy) s.heap.objs.size f cdv)
    exact (pd_scons (pd_if (pt_dnot (pt_tru (pd_isiT (T1 := .lst) (T2 := .tup) (pd_var (pv 0)) (pa_cons (pe_bltn rfl B.list b_list rfl) (pa_cons (pe_bltn rfl B.tuple b_tuple rfl) pa_nil)) rfl rfl rfl (fun _ h => pe_callB call_isiT rfl B.isinstance b_isinstance h)))) (pd_sone (pd_ret (pd_var (pv 0)))) pd_snil)
      (pd_scons (pd_setLc (i := 2) (own := [("part", 3)]) rfl sc__law_copy.nd rfl rfl (sw_true rfl rfl rfl (by decide +kernel)) (pd_seq (pd_var (pv 0))) (blkOk_by (own := [("part", 3)]) (N := N__law_copy) (sc := defScope s__law_copy) (by decide +kernel)) (own1 ⟨rfl, rfl⟩) (fun _ _ _ _ _ => pg_name (i := 3) sc__law_copy.nd rfl (by first | exact Or.inl rfl | exact Or.inr rfl)) (cg_name (ns := [3]) ⟨rfl, rfl⟩ List.mem_cons_self) (fun _ _ _ _ _ => pd_yes) (fun _ _ _ _ _ => (pd_callP C__law_copy hr (Nat.le_refl _) passAt0 rfl (pd_cons (pd_var (pv 3)) (pd_cons (pd_var (pv 1)) pd_nil)))))
      (pd_scons (pd_if (PW.pt (pw_dor (DL.pt_cmp (opR_eq hr.units) (opS_of opB_eq) (nomark _) (pd_var (pv 1)) pd_int) (pw_dor1 (PW.pt (pw_dand (DL.pt_cmp (opR_eq hr.units) (opS_of opB_eq) (nomark _) (pd_var (pv 1)) pd_int) (pw_dand1 (pt_tru (pd_isi1 (T := .tup) (pd_var (pv 0)) (pe_bltn rfl B.tuple b_tuple rfl) rfl B.isinstance b_isinstance rfl (by decide) rfl rfl (fun _ h => pe_callB call_isi rfl B.isinstance b_isinstance h))))))))) (pd_sone (pd_ret (pd_biR callB_tuple (pe_callTy call_tuple_of rfl B.tuple b_tuple (pd_cons (pd_var (pv 2)) pd_nil))))) pd_snil)
      (pd_sone (pd_ret (pd_var (pv 2)))))))
theorem w__law_copy {f : Addr} {fd : FuncData} (F : Fun K "_law_copy" "_law_copy" s__law_copy f fd) (B : Bn mg) (hk : mg "_law_copy" = some (.ref f)) (kp : PySem.W.keepIn K (.ref f) = true) (bi : Binds K fd ["value", "form"] []) : CalD P w K mg base CX0 5 "_law_copy" 2 g__law_copy := ⟨f, fd, _, f__law_copy F B hk kp bi 5, hk, kp, bi⟩

theorem sc__law_mixed : FnScope N__law_mixed ["store", "value"] (defScope s__law_mixed) := ⟨rfl, rfl, rfl, by decide +kernel, rfl, by decide +kernel, by decide +kernel⟩
theorem f__law_mixed {f : Addr} {fd : FuncData} (F : Fun K "_law_mixed" "_law_mixed" s__law_mixed f fd) (B : Bn mg) (C__law_rare : CalD P w K mg base CX0 4 "_law_rare" 2 g__law_rare) (hk : mg "_law_mixed" = some (.ref f)) (kp : PySem.W.keepIn K (.ref f) = true) (bi : Binds K fd ["store", "value"] []) : ∀ j : Nat, FnOk P w K mg base CX0 (4 + j) f fd ["store", "value"] (spD K 2 (gN__law_mixed j))
  | 0 => fn_none rfl
  | j + 1 => by
    have C__law_mixed : CalD P w K mg base CX0 (4 + j) "_law_mixed" 2 (gN__law_mixed j) := ⟨f, fd, _, f__law_mixed F B C__law_rare hk kp bi j, hk, kp, bi⟩
    refine fn_ok0 (k := 4 + j) (N := N__law_mixed) (m := m__law_mixed (gN__law_mixed j)) (cvL [3]) [true, false] F sc__law_mixed rfl rfl (by decide) (fun cdv A outer s H E T as vs hr => ?_) (fun as r _ h => h)
    have hp := PassesOwn.never (M := model P w) (A := A.deeper (envOfC "_law_mixed" (defScope s__law_mixed) s.heap.objs.size f cdv)) (env := envOfC "_law_mixed" (defScope s__law_mixed) s.heap.objs.size f cdv)
    exact (pd_scons (pd_if (pt_dnot (pt_tru (pd_isiT (T1 := .lst) (T2 := .tup) (pd_var (pv 1)) (pa_cons (pe_bltn rfl B.list b_list rfl) (pa_cons (pe_bltn rfl B.tuple b_tuple rfl) pa_nil)) rfl rfl rfl (fun _ h => pe_callB call_isiT rfl B.isinstance b_isinstance h)))) (pd_sone (pd_ret (pd_var (pv 1)))) pd_snil)
      (pd_scons (pd_setLc (i := 2) (own := [("part", 3)]) rfl sc__law_mixed.nd rfl rfl (sw_true rfl rfl rfl (by decide +kernel)) (pd_seq (pd_var (pv 1))) (blkOk_by (own := [("part", 3)]) (N := N__law_mixed) (sc := defScope s__law_mixed) (by decide +kernel)) (own1 ⟨rfl, rfl⟩) (fun _ _ _ _ _ => pg_name (i := 3) sc__law_mixed.nd rfl (by first | exact Or.inl rfl | exact Or.inr rfl)) (cg_name (ns := [3]) ⟨rfl, rfl⟩ List.mem_cons_self) (fun _ _ _ _ _ => pd_yes) (fun _ _ _ _ _ => (pd_call [true, false] C__law_mixed hr (Nat.le_refl _) passAt0 rfl (pd_cons (pd_var (pv 0)) (pd_cons (pd_var (pv 3)) pd_nil)))))
      (pd_scons (pd_if (pt_tru (pd_call [true, false] C__law_rare hr (Nat.le_trans (by decide) (Nat.le_add_right 4 j)) passAt0 rfl (pd_cons (pd_var (pv 0)) (pd_cons pd_int pd_nil)))) (pd_sone (pd_ret (pd_biR callB_tuple (pe_callTy call_tuple_of rfl B.tuple b_tuple (pd_cons (pd_var (pv 2)) pd_nil))))) pd_snil)
      (pd_sone (pd_ret (pd_var (pv 2)))))))
theorem w__law_mixed {f : Addr} {fd : FuncData} (F : Fun K "_law_mixed" "_law_mixed" s__law_mixed f fd) (B : Bn mg) (C__law_rare : CalD P w K mg base CX0 4 "_law_rare" 2 g__law_rare) (hk : mg "_law_mixed" = some (.ref f)) (kp : PySem.W.keepIn K (.ref f) = true) (bi : Binds K fd ["store", "value"] []) : CalD P w K mg base CX0 7 "_law_mixed" 2 g__law_mixed := ⟨f, fd, _, f__law_mixed F B C__law_rare hk kp bi 3, hk, kp, bi⟩

theorem sc__law_order : FnScope N__law_order ["store", "size"] (defScope s__law_order) := ⟨rfl, rfl, rfl, by decide +kernel, rfl, by decide +kernel, by decide +kernel⟩
theorem f__law_order {f : Addr} {fd : FuncData} (F : Fun K "_law_order" "_law_order" s__law_order f fd) (B : Bn mg) (C__law_take : CalD P w K mg base CX0 3 "_law_take" 2 g__law_take) : FnOk P w K mg base CX0 4 f fd ["store", "size"] (spD K 2 g__law_order) := by
  refine fn_ok0 (k := 3) (N := N__law_order) (m := m__law_order) (cvL [4]) [true, false] F sc__law_order rfl rfl (by decide) (fun cdv A outer s H E T as vs hr => ?_) (fun as r _ h => h)
  have hp := PassesOwn.never (M := model P w) (A := A.deeper (envOfC "_law_order" (defScope s__law_order) s.heap.objs.size f cdv)) (env := envOfC "_law_order" (defScope s__law_order) s.heap.objs.size f cdv)
  exact (pd_scons (pd_set (i := 2) (pd_listRg1 rfl rfl B.list rfl B.range (pd_var (pv 1))) (fun _ h => ps_set sc__law_order.nd rfl (by first | exact Or.inl rfl | exact Or.inr rfl) h))
      (pd_scons (pd_set (i := 3) (pd_call [true, false] C__law_take hr (by decide) passAt0 rfl (pd_cons (pd_var (pv 0)) (pd_cons pd_int pd_nil))) (fun _ h => ps_set sc__law_order.nd rfl (by first | exact Or.inl rfl | exact Or.inr rfl) h))
      (pd_scons (pd_if (DL.pt_cmp (opR_eq hr.units) (opS_of opB_eq) (nomark _) (pd_var (pv 3)) pd_int) (pd_sone (pd_ret (pd_var (pv 2)))) pd_snil)
      (pd_scons (pd_if (DL.pt_cmp (opR_eq hr.units) (opS_of opB_eq) (nomark _) (pd_var (pv 3)) pd_int) (pd_sone (pd_ret (pd_lc (own := [("k", 4)]) rfl sc__law_order.nd (pd_range1 (pd_var (pv 1)) rfl B.range) (blkOk_by (own := [("k", 4)]) (N := N__law_order) (sc := defScope s__law_order) (by decide +kernel)) (own1 ⟨rfl, rfl⟩) (fun _ _ _ _ _ => pg_name (i := 4) sc__law_order.nd rfl (by first | exact Or.inl rfl | exact Or.inr rfl)) (cg_name (ns := [4]) ⟨rfl, rfl⟩ List.mem_cons_self) (fun _ _ _ _ _ => pd_yes) (fun _ _ _ _ _ => (pd_bin op_sub (opS_of opB_sub) (pd_bin op_sub (opS_of opB_sub) (pd_var (pv 1)) pd_int) (pd_var (pv 4))))))) pd_snil)
      (pd_scons (pd_set (i := 5) (pd_lst pd_nil) (fun _ h => ps_set sc__law_order.nd rfl (by first | exact Or.inl rfl | exact Or.inr rfl) h))
      (pd_scons (pd_for hp rfl (pd_range1 (pd_var (pv 1)) rfl B.range) (pd_gname (pg_name (i := 4) sc__law_order.nd rfl (by first | exact Or.inl rfl | exact Or.inr rfl))) (pd_sone (pd_expr (pd_meth mtS_append (pd_cons (pd_meth mtS_popAt (pd_cons (pd_call [true, false] C__law_take hr (by decide) passAt0 rfl (pd_cons (pd_var (pv 0)) (pd_cons (pd_biR callB_len (pe_callB call_len rfl B.len b_len (pd_cons (pd_var (pv 2)) pd_nil))) pd_nil))) pd_nil) (fun _ h => pe_bm PySem.F.plainAttrs_list PySem.F.slot_list_pop PySem.F.type_list_pop mt_popAt (pv 2) h)) pd_nil) (fun _ h => pe_bm PySem.F.plainAttrs_list PySem.F.slot_list_append PySem.F.type_list_append mt_append (pv 5) h)))))
      (pd_sone (pd_ret (pd_var (pv 5))))))))))
theorem w__law_order {f : Addr} {fd : FuncData} (F : Fun K "_law_order" "_law_order" s__law_order f fd) (B : Bn mg) (C__law_take : CalD P w K mg base CX0 3 "_law_take" 2 g__law_take) (hk : mg "_law_order" = some (.ref f)) (kp : PySem.W.keepIn K (.ref f) = true) (bi : Binds K fd ["store", "size"] []) : CalD P w K mg base CX0 4 "_law_order" 2 g__law_order := ⟨f, fd, _, f__law_order F B C__law_take, hk, kp, bi⟩

theorem sc__law_pile_list : FnScope N__law_pile_list ["store", "size", "top"] (defScope s__law_pile_list) := ⟨rfl, rfl, rfl, by decide +kernel, rfl, by decide +kernel, by decide +kernel⟩
theorem f__law_pile_list {f : Addr} {fd : FuncData} (F : Fun K "_law_pile_list" "_law_pile_list" s__law_pile_list f fd) (B : Bn mg) (C__law_take : CalD P w K mg base CX0 3 "_law_take" 2 g__law_take) (C__law_upto : CalD P w K mg base CX0 4 "_law_upto" 2 g__law_upto) (C__law_rare : CalD P w K mg base CX0 4 "_law_rare" 2 g__law_rare) (C__law_order : CalD P w K mg base CX0 4 "_law_order" 2 g__law_order) : FnOk P w K mg base CX0 5 f fd ["store", "size", "top"] (spD K 3 g__law_pile_list) := by
  refine fn_ok0 (k := 4) (N := N__law_pile_list) (m := m__law_pile_list) (cvL [6]) [true, false, false] F sc__law_pile_list rfl rfl (by decide) (fun cdv A outer s H E T as vs hr => ?_) (fun as r _ h => h)
  have hp := PassesOwn.never (M := model P w) (A := A.deeper (envOfC "_law_pile_list" (defScope s__law_pile_list) s.heap.objs.size f cdv)) (env := envOfC "_law_pile_list" (defScope s__law_pile_list) s.heap.objs.size f cdv)
  exact (pd_scons (pd_set (i := 3) (pd_call [true, false] C__law_take hr (by decide) passAt0 rfl (pd_cons (pd_var (pv 0)) (pd_cons pd_int pd_nil))) (fun _ h => ps_set sc__law_pile_list.nd rfl (by first | exact Or.inl rfl | exact Or.inr rfl) h))
      (pd_scons (pd_set (i := 4) (pd_lst pd_nil) (fun _ h => ps_set sc__law_pile_list.nd rfl (by first | exact Or.inl rfl | exact Or.inr rfl) h))
      (pd_scons (pd_set (i := 5) pd_int (fun _ h => ps_set sc__law_pile_list.nd rfl (by first | exact Or.inl rfl | exact Or.inr rfl) h))
      (pd_scons (pd_for hp rfl (pd_range1 (pd_var (pv 1)) rfl B.range) (pd_gname (pg_name (i := 6) sc__law_pile_list.nd rfl (by first | exact Or.inl rfl | exact Or.inr rfl))) (pd_scons (pd_set (i := 7) (pd_bin op_sub (opS_of opB_sub) (pd_call [true, false] C__law_take hr (by decide) passAt0 rfl (pd_cons (pd_var (pv 0)) (pd_cons pd_int pd_nil))) pd_int) (fun _ h => ps_set sc__law_pile_list.nd rfl (by first | exact Or.inl rfl | exact Or.inr rfl) h))
      (pd_scons (pd_if (DL.pt_cmp (opR_eq hr.units) (opS_of opB_eq) (nomark _) (pd_var (pv 3)) pd_int) (pd_sone (pd_set (i := 7) (pd_bin op_sub (opS_of opB_sub) (pd_bin opR_add (opS_of opB_add) (pd_var (pv 5)) (pd_call [true, false] C__law_take hr (by decide) passAt0 rfl (pd_cons (pd_var (pv 0)) (pd_cons pd_int pd_nil)))) pd_int) (fun _ h => ps_set sc__law_pile_list.nd rfl (by first | exact Or.inl rfl | exact Or.inr rfl) h))) pd_snil)
      (pd_scons (pd_if (DL.pt_cmp (opR_eq hr.units) (opS_of opB_eq) (nomark _) (pd_var (pv 3)) pd_int) (pd_sone (pd_set (i := 7) (pd_call [true, false] C__law_upto hr (by decide) passAt0 rfl (pd_cons (pd_var (pv 0)) (pd_cons (pd_var (pv 2)) pd_nil))) (fun _ h => ps_set sc__law_pile_list.nd rfl (by first | exact Or.inl rfl | exact Or.inr rfl) h))) pd_snil)
      (pd_scons (pd_if (pt_tru (pd_call [true, false] C__law_rare hr (by decide) passAt0 rfl (pd_cons (pd_var (pv 0)) (pd_cons pd_int pd_nil)))) (pd_sone (pd_set (i := 7) (pd_un un_neg unB_neg pd_int) (fun _ h => ps_set sc__law_pile_list.nd rfl (by first | exact Or.inl rfl | exact Or.inr rfl) h))) pd_snil)
      (pd_scons (pd_expr (pd_meth mtS_append (pd_cons (pd_biR callB_min (pe_callB (call_min' rfl) rfl B.min b_min (pd_cons (pd_var (pv 2)) (pd_cons (pd_var (pv 7)) pd_nil)))) pd_nil) (fun _ h => pe_bm PySem.F.plainAttrs_list PySem.F.slot_list_append PySem.F.type_list_append mt_append (pv 4) h)))
      (pd_sone (pd_set (i := 5) (pd_biR callB_min (pe_callB (call_min' rfl) rfl B.min b_min (pd_cons (pd_var (pv 2)) (pd_cons (pd_bin opR_add (opS_of opB_add) (pd_var (pv 5)) (pd_biR callB_max (pe_callB (call_max' rfl) rfl B.max b_max (pd_cons pd_int (pd_cons (pd_var (pv 7)) pd_nil))))) pd_nil)))) (fun _ h => ps_set sc__law_pile_list.nd rfl (by first | exact Or.inl rfl | exact Or.inr rfl) h)))))))))
      (pd_sone (pd_ret (pd_lc (own := [("k", 6)]) rfl sc__law_pile_list.nd (pd_seq (pd_call [true, false] C__law_order hr (by decide) passAt0 rfl (pd_cons (pd_var (pv 0)) (pd_cons (pd_var (pv 1)) pd_nil)))) (blkOk_by (own := [("k", 6)]) (N := N__law_pile_list) (sc := defScope s__law_pile_list) (by decide +kernel)) (own1 ⟨rfl, rfl⟩) (fun _ _ _ _ _ => pg_name (i := 6) sc__law_pile_list.nd rfl (by first | exact Or.inl rfl | exact Or.inr rfl)) (cg_name (ns := [6]) ⟨rfl, rfl⟩ List.mem_cons_self) (fun _ _ _ _ _ => pd_yes) (fun _ _ _ _ _ => (pd_ix (pd_var (pv 4)) (pd_var (pv 6)))))))))))
theorem w__law_pile_list {f : Addr} {fd : FuncData} (F : Fun K "_law_pile_list" "_law_pile_list" s__law_pile_list f fd) (B : Bn mg) (C__law_take : CalD P w K mg base CX0 3 "_law_take" 2 g__law_take) (C__law_upto : CalD P w K mg base CX0 4 "_law_upto" 2 g__law_upto) (C__law_rare : CalD P w K mg base CX0 4 "_law_rare" 2 g__law_rare) (C__law_order : CalD P w K mg base CX0 4 "_law_order" 2 g__law_order) (hk : mg "_law_pile_list" = some (.ref f)) (kp : PySem.W.keepIn K (.ref f) = true) (bi : Binds K fd ["store", "size", "top"] []) : CalD P w K mg base CX0 5 "_law_pile_list" 3 g__law_pile_list := ⟨f, fd, _, f__law_pile_list F B C__law_take C__law_upto C__law_rare C__law_order, hk, kp, bi⟩

theorem sc__law_due_least : FnScope N__law_due_least ["piles"] (defScope s__law_due_least) := ⟨rfl, rfl, rfl, by decide +kernel, rfl, by decide +kernel, by decide +kernel⟩
theorem f__law_due_least {f : Addr} {fd : FuncData} (F : Fun K "_law_due_least" "_law_due_least" s__law_due_least f fd) (B : Bn mg) : FnOk P w K mg base CX0 1 f fd ["piles"] (spD K 1 g__law_due_least) := by
  refine fn_ok0 (k := 0) (N := N__law_due_least) (m := m__law_due_least) (cvL [2]) [false] F sc__law_due_least rfl rfl (by decide) (fun cdv A outer s H E T as vs hr => ?_) (fun as r _ h => h)
  have hp := PassesOwn.never (M := model P w) (A := A.deeper (envOfC "_law_due_least" (defScope s__law_due_least) s.heap.objs.size f cdv)) (env := envOfC "_law_due_least" (defScope s__law_due_least) s.heap.objs.size f cdv)
  exact (pd_scons (pd_set (i := 1) (pd_biR callB_sortedIP (pe_callB cr_sortedIP rfl B.sorted b_sorted (pd_cons (pd_lc (own := [("k", 2)]) rfl sc__law_due_least.nd (pd_range1 (pd_biR callB_len (pe_callB call_len rfl B.len b_len (pd_cons (pd_var (pv 0)) pd_nil))) rfl B.range) (blkOk_by (own := [("k", 2)]) (N := N__law_due_least) (sc := defScope s__law_due_least) (by decide +kernel)) (own1 ⟨rfl, rfl⟩) (fun _ _ _ _ _ => pg_name (i := 2) sc__law_due_least.nd rfl (by first | exact Or.inl rfl | exact Or.inr rfl)) (cg_name (ns := [2]) ⟨rfl, rfl⟩ List.mem_cons_self) (fun _ _ _ _ _ => (pts_one (DL.pt_cmp op_ge (opS_of opB_cmpI) (nomark _) (pd_ix (pd_var (pv 0)) (pd_var (pv 2))) pd_int))) (fun _ _ _ _ _ => (pd_tup (pd_cons (pd_ix (pd_var (pv 0)) (pd_var (pv 2))) (pd_cons (pd_var (pv 2)) pd_nil))))) pd_nil))) (fun _ h => ps_set sc__law_due_least.nd rfl (by first | exact Or.inl rfl | exact Or.inr rfl) h))
      (pd_scons (pd_if (DL.pt_cmp (opR_eq hr.units) (opS_of opB_eq) (nomark _) (pd_biR callB_len (pe_callB call_len rfl B.len b_len (pd_cons (pd_var (pv 1)) pd_nil))) pd_int) (pd_sone (pd_ret (pd_un un_neg unB_neg pd_int))) pd_snil)
      (pd_sone (pd_ret (pd_ix (pd_ix (pd_var (pv 1)) pd_int) pd_int)))))
theorem w__law_due_least {f : Addr} {fd : FuncData} (F : Fun K "_law_due_least" "_law_due_least" s__law_due_least f fd) (B : Bn mg) (hk : mg "_law_due_least" = some (.ref f)) (kp : PySem.W.keepIn K (.ref f) = true) (bi : Binds K fd ["piles"] []) : CalD P w K mg base CX0 1 "_law_due_least" 1 g__law_due_least := ⟨f, fd, _, f__law_due_least F B, hk, kp, bi⟩

theorem sc__law_due_widest : FnScope N__law_due_widest ["piles"] (defScope s__law_due_widest) := ⟨rfl, rfl, rfl, by decide +kernel, rfl, by decide +kernel, by decide +kernel⟩
theorem f__law_due_widest {f : Addr} {fd : FuncData} (F : Fun K "_law_due_widest" "_law_due_widest" s__law_due_widest f fd) (B : Bn mg) : FnOk P w K mg base CX0 1 f fd ["piles"] (spD K 1 g__law_due_widest) := by
  refine fn_ok0 (k := 0) (N := N__law_due_widest) (m := m__law_due_widest) (cvL [1]) [false] F sc__law_due_widest rfl rfl (by decide) (fun cdv A outer s H E T as vs hr => ?_) (fun as r _ h => h)
  have hp := PassesOwn.never (M := model P w) (A := A.deeper (envOfC "_law_due_widest" (defScope s__law_due_widest) s.heap.objs.size f cdv)) (env := envOfC "_law_due_widest" (defScope s__law_due_widest) s.heap.objs.size f cdv)
  exact (pd_scons (pd_setLc (i := 2) (own := [("k", 1)]) rfl sc__law_due_widest.nd rfl rfl (sw_true rfl rfl rfl (by decide +kernel)) (pd_range1 (pd_biR callB_len (pe_callB call_len rfl B.len b_len (pd_cons (pd_var (pv 0)) pd_nil))) rfl B.range) (blkOk_by (own := [("k", 1)]) (N := N__law_due_widest) (sc := defScope s__law_due_widest) (by decide +kernel)) (own1 ⟨rfl, rfl⟩) (fun _ _ _ _ _ => pg_name (i := 1) sc__law_due_widest.nd rfl (by first | exact Or.inl rfl | exact Or.inr rfl)) (cg_name (ns := [1]) ⟨rfl, rfl⟩ List.mem_cons_self) (fun _ _ _ _ _ => (pts_one (DL.pt_cmp op_ge (opS_of opB_cmpI) (nomark _) (pd_ix (pd_var (pv 0)) (pd_var (pv 1))) pd_int))) (fun _ _ _ _ _ => (pd_var (pv 1))))
      (pd_scons (pd_set (i := 3) (pd_lst pd_nil) (fun _ h => ps_set sc__law_due_widest.nd rfl (by first | exact Or.inl rfl | exact Or.inr rfl) h))
      (pd_scons (pd_for hp rfl (pd_range1 (pd_biR callB_len (pe_callB call_len rfl B.len b_len (pd_cons (pd_var (pv 0)) pd_nil))) rfl B.range) (pd_gname (pg_name (i := 4) sc__law_due_widest.nd rfl (by first | exact Or.inl rfl | exact Or.inr rfl))) (pd_scons (pd_set (i := 5) (pd_un un_neg unB_neg pd_int) (fun _ h => ps_set sc__law_due_widest.nd rfl (by first | exact Or.inl rfl | exact Or.inr rfl) h))
      (pd_scons (pd_for hp rfl (pd_seq (pd_var (pv 2))) (pd_gname (pg_name (i := 1) sc__law_due_widest.nd rfl (by first | exact Or.inl rfl | exact Or.inr rfl))) (pd_sone (pd_if (PW.pt (pw_dand (DL.pt_cmp op_notIn_seq (opS_of (opB_in (neg := true))) rfl (pd_var (pv 1)) (pd_var (pv 3))) (pw_dand1 (PW.pt (pw_dor (DL.pt_cmp (opR_lt hr.units0) (opS_of opB_lt) (nomark _) (pd_var (pv 5)) pd_int) (pw_dor1 (DL.pt_cmp (opR_lt hr.units0) (opS_of opB_lt) (nomark _) (pd_ix (pd_var (pv 0)) (pd_var (pv 1))) (pd_ix (pd_var (pv 0)) (pd_var (pv 5)))))))))) (pd_sone (pd_set (i := 5) (pd_var (pv 1)) (fun _ h => ps_set sc__law_due_widest.nd rfl (by first | exact Or.inl rfl | exact Or.inr rfl) h))) pd_snil)))
      (pd_sone (pd_if (DL.pt_cmp op_ge (opS_of opB_cmpI) (nomark _) (pd_var (pv 5)) pd_int) (pd_sone (pd_expr (pd_meth mtS_append (pd_cons (pd_var (pv 5)) pd_nil) (fun _ h => pe_bm PySem.F.plainAttrs_list PySem.F.slot_list_append PySem.F.type_list_append mt_append (pv 3) h)))) pd_snil)))))
      (pd_scons (pd_set (i := 6) (pd_lst (pd_cons pd_int pd_nil)) (fun _ h => ps_set sc__law_due_widest.nd rfl (by first | exact Or.inl rfl | exact Or.inr rfl) h))
      (pd_scons (pd_for hp rfl (pd_range2 pd_int (pd_biR callB_len (pe_callB call_len rfl B.len b_len (pd_cons (pd_var (pv 3)) pd_nil))) rfl B.range) (pd_gname (pg_name (i := 7) sc__law_due_widest.nd rfl (by first | exact Or.inl rfl | exact Or.inr rfl))) (pd_scons (pd_set (i := 8) (pd_slice (pd_var (pv 3)) pd_po0 (pd_po (pd_var (pv 7)))) (fun _ h => ps_set sc__law_due_widest.nd rfl (by first | exact Or.inl rfl | exact Or.inr rfl) h))
      (pd_scons (pd_set (i := 9) (pd_biR callB_sum (pe_callB (cr_sum rfl) rfl B.sum b_sum (pd_cons (pd_lcV (own := [("k", 1)]) rfl sc__law_due_widest.nd (pd_var (pv 8)) (blkOk_by (own := [("k", 1)]) (N := N__law_due_widest) (sc := defScope s__law_due_widest) (by decide +kernel)) (own1 ⟨rfl, rfl⟩) (fun _ _ _ _ _ => pg_name (i := 1) sc__law_due_widest.nd rfl (by first | exact Or.inl rfl | exact Or.inr rfl)) (cg_name (ns := [1]) ⟨rfl, rfl⟩ List.mem_cons_self) (fun _ _ _ _ _ => pd_yes) (fun _ _ _ _ _ => (pd_ix (pd_var (pv 0)) (pd_var (pv 1))))) pd_nil))) (fun _ h => ps_set sc__law_due_widest.nd rfl (by first | exact Or.inl rfl | exact Or.inr rfl) h))
      (pd_scons (pd_set (i := 10) (pd_ix (pd_var (pv 3)) (pd_var (pv 7))) (fun _ h => ps_set sc__law_due_widest.nd rfl (by first | exact Or.inl rfl | exact Or.inr rfl) h))
      (pd_sone (pd_if (PW.pt (pw_dor (DL.pt_cmp (opR_lt hr.units0) (opS_of opB_lt) (nomark _) (pd_var (pv 9)) (pd_ix (pd_var (pv 0)) (pd_var (pv 10)))) (pw_dor1 (PW.pt (pw_dand (DL.pt_cmp (opR_eq hr.units) (opS_of opB_eq) (nomark _) (pd_var (pv 9)) (pd_ix (pd_var (pv 0)) (pd_var (pv 10)))) (pw_dand1 (DL.pt_cmp (opR_lt hr.units0) (opS_of opB_lt) (nomark _) (pd_biR callB_max (pe_callB (call_max' rfl) rfl B.max b_max (pd_cons (pd_var (pv 8)) pd_nil))) (pd_var (pv 10))))))))) (pd_sone (pd_expr (pd_meth mtS_append (pd_cons (pd_var (pv 7)) pd_nil) (fun _ h => pe_bm PySem.F.plainAttrs_list PySem.F.slot_list_append PySem.F.type_list_append mt_append (pv 6) h)))) pd_snil))))))
      (pd_sone (pd_ret (pd_ix (pd_var (pv 6)) (pd_un un_neg unB_neg pd_int)))))))))
theorem w__law_due_widest {f : Addr} {fd : FuncData} (F : Fun K "_law_due_widest" "_law_due_widest" s__law_due_widest f fd) (B : Bn mg) (hk : mg "_law_due_widest" = some (.ref f)) (kp : PySem.W.keepIn K (.ref f) = true) (bi : Binds K fd ["piles"] []) : CalD P w K mg base CX0 1 "_law_due_widest" 1 g__law_due_widest := ⟨f, fd, _, f__law_due_widest F B, hk, kp, bi⟩

theorem sc__law_gap : FnScope N__law_gap ["store", "size"] (defScope s__law_gap) := ⟨rfl, rfl, rfl, by decide +kernel, rfl, by decide +kernel, by decide +kernel⟩
theorem f__law_gap {f : Addr} {fd : FuncData} (F : Fun K "_law_gap" "_law_gap" s__law_gap f fd) (B : Bn mg) (C__law_upto : CalD P w K mg base CX0 4 "_law_upto" 2 g__law_upto) (C__law_take : CalD P w K mg base CX0 3 "_law_take" 2 g__law_take) (C__law_order : CalD P w K mg base CX0 4 "_law_order" 2 g__law_order) : FnOk P w K mg base CX0 5 f fd ["store", "size"] (spD K 2 g__law_gap) := by
  refine fn_ok0 (k := 4) (N := N__law_gap) (m := m__law_gap) (cvL [5]) [true, false] F sc__law_gap rfl rfl (by decide) (fun cdv A outer s H E T as vs hr => ?_) (fun as r _ h => h)
  have hp := PassesOwn.never (M := model P w) (A := A.deeper (envOfC "_law_gap" (defScope s__law_gap) s.heap.objs.size f cdv)) (env := envOfC "_law_gap" (defScope s__law_gap) s.heap.objs.size f cdv)
  exact (pd_scons (pd_set (i := 2) (pd_bin opR_add (opS_of opB_add) pd_int (pd_call [true, false] C__law_upto hr (by decide) passAt0 rfl (pd_cons (pd_var (pv 0)) (pd_cons (pd_bin op_pow (opS_of opB_pow) pd_int pd_int) pd_nil)))) (fun _ h => ps_set sc__law_gap.nd rfl (by first | exact Or.inl rfl | exact Or.inr rfl) h))
      (pd_scons (pd_set (i := 3) (pd_lst (pd_cons (pd_var (pv 2)) (pd_cons (pd_var (pv 2)) (pd_cons (pd_bin opR_add (opS_of opB_add) (pd_var (pv 2)) (pd_call [true, false] C__law_take hr (by decide) passAt0 rfl (pd_cons (pd_var (pv 0)) (pd_cons pd_int pd_nil)))) pd_nil)))) (fun _ h => ps_set sc__law_gap.nd rfl (by first | exact Or.inl rfl | exact Or.inr rfl) h))
      (pd_scons (pd_set (i := 4) (pd_biR callB_sum (pe_callB (cr_sum rfl) rfl B.sum b_sum (pd_cons (pd_var (pv 3)) pd_nil))) (fun _ h => ps_set sc__law_gap.nd rfl (by first | exact Or.inl rfl | exact Or.inr rfl) h))
      (pd_scons (pd_for hp rfl (pd_range2 pd_int (pd_var (pv 1)) rfl B.range) (pd_gname (pg_name (i := 5) sc__law_gap.nd rfl (by first | exact Or.inl rfl | exact Or.inr rfl))) (pd_scons (pd_set (i := 4) (pd_bin opR_add (opS_of opB_add) (pd_var (pv 4)) (pd_ix (pd_var (pv 3)) (pd_un un_neg unB_neg pd_int))) (fun _ h => ps_set sc__law_gap.nd rfl (by first | exact Or.inl rfl | exact Or.inr rfl) h))
      (pd_sone (pd_expr (pd_meth mtS_append (pd_cons (pd_var (pv 4)) pd_nil) (fun _ h => pe_bm PySem.F.plainAttrs_list PySem.F.slot_list_append PySem.F.type_list_append mt_append (pv 3) h))))))
      (pd_sone (pd_ret (pd_lc (own := [("k", 5)]) rfl sc__law_gap.nd (pd_seq (pd_call [true, false] C__law_order hr (by decide) passAt0 rfl (pd_cons (pd_var (pv 0)) (pd_cons (pd_biR callB_len (pe_callB call_len rfl B.len b_len (pd_cons (pd_var (pv 3)) pd_nil))) pd_nil)))) (blkOk_by (own := [("k", 5)]) (N := N__law_gap) (sc := defScope s__law_gap) (by decide +kernel)) (own1 ⟨rfl, rfl⟩) (fun _ _ _ _ _ => pg_name (i := 5) sc__law_gap.nd rfl (by first | exact Or.inl rfl | exact Or.inr rfl)) (cg_name (ns := [5]) ⟨rfl, rfl⟩ List.mem_cons_self) (fun _ _ _ _ _ => pd_yes) (fun _ _ _ _ _ => (pd_ix (pd_var (pv 3)) (pd_var (pv 5)))))))))))
theorem w__law_gap {f : Addr} {fd : FuncData} (F : Fun K "_law_gap" "_law_gap" s__law_gap f fd) (B : Bn mg) (C__law_upto : CalD P w K mg base CX0 4 "_law_upto" 2 g__law_upto) (C__law_take : CalD P w K mg base CX0 3 "_law_take" 2 g__law_take) (C__law_order : CalD P w K mg base CX0 4 "_law_order" 2 g__law_order) (hk : mg "_law_gap" = some (.ref f)) (kp : PySem.W.keepIn K (.ref f) = true) (bi : Binds K fd ["store", "size"] []) : CalD P w K mg base CX0 5 "_law_gap" 2 g__law_gap := ⟨f, fd, _, f__law_gap F B C__law_upto C__law_take C__law_order, hk, kp, bi⟩

theorem sc__law_asked : FnScope N__law_asked ["store", "size", "top"] (defScope s__law_asked) := ⟨rfl, rfl, rfl, by decide +kernel, rfl, by decide +kernel, by decide +kernel⟩
theorem f__law_asked {f : Addr} {fd : FuncData} (F : Fun K "_law_asked" "_law_asked" s__law_asked f fd) (B : Bn mg) (C__law_take : CalD P w K mg base CX0 3 "_law_take" 2 g__law_take) (C__law_gap : CalD P w K mg base CX0 5 "_law_gap" 2 g__law_gap) (C__law_pick : CalD P w K mg base CX0 4 "_law_pick" 2 g__law_pick) (C__law_pile_list : CalD P w K mg base CX0 5 "_law_pile_list" 3 g__law_pile_list) (C__law_rare : CalD P w K mg base CX0 4 "_law_rare" 2 g__law_rare) : FnOk P w K mg base CX0 6 f fd ["store", "size", "top"] (spD K 3 g__law_asked) := by
  refine fn_ok0 (k := 5) (N := N__law_asked) (m := m__law_asked) (cvL [6, 7]) [true, false, false] F sc__law_asked rfl rfl (by decide) (fun cdv A outer s H E T as vs hr => ?_) (fun as r _ h => h)
  have hp := PassesOwn.never (M := model P w) (A := A.deeper (envOfC "_law_asked" (defScope s__law_asked) s.heap.objs.size f cdv)) (env := envOfC "_law_asked" (defScope s__law_asked) s.heap.objs.size f cdv)
  exact (pd_scons (pd_set (i := 3) (pd_call [true, false] C__law_take hr (by decide) passAt0 rfl (pd_cons (pd_var (pv 0)) (pd_cons pd_int pd_nil))) (fun _ h => ps_set sc__law_asked.nd rfl (by first | exact Or.inl rfl | exact Or.inr rfl) h))
      (pd_scons (pd_if (DL.pt_cmp (opR_eq hr.units) (opS_of opB_eq) (nomark _) (pd_var (pv 3)) pd_int) (pd_sone (pd_ret (pd_call [true, false] C__law_gap hr (by decide) passAt0 rfl (pd_cons (pd_var (pv 0)) (pd_cons (pd_var (pv 1)) pd_nil))))) pd_snil)
      (pd_scons (pd_if (DL.pt_cmp (opR_eq hr.units) (opS_of opB_eq) (nomark _) (pd_var (pv 3)) pd_int) (pd_sone (pd_ret (pd_lc (own := [("k", 6)]) rfl sc__law_asked.nd (pd_range1 (pd_var (pv 1)) rfl B.range) (blkOk_by (own := [("k", 6)]) (N := N__law_asked) (sc := defScope s__law_asked) (by decide +kernel)) (own1 ⟨rfl, rfl⟩) (fun _ _ _ _ _ => pg_name (i := 6) sc__law_asked.nd rfl (by first | exact Or.inl rfl | exact Or.inr rfl)) (cg_name (ns := [6]) ⟨rfl, rfl⟩ List.mem_cons_self) (fun _ _ _ _ _ => pd_yes) (fun _ _ _ _ _ => (pd_call [true, false] C__law_pick hr (by decide) passAt0 rfl (pd_cons (pd_var (pv 0)) (pd_cons (pd_lst (pd_cons (pd_un un_neg unB_neg pd_int) (pd_cons pd_int (pd_cons pd_int (pd_cons pd_int pd_nil))))) pd_nil))))))) pd_snil)
      (pd_scons (pd_set (i := 4) (pd_call [true, false, false] C__law_pile_list hr (by decide) passAt0 rfl (pd_cons (pd_var (pv 0)) (pd_cons (pd_var (pv 1)) (pd_cons (pd_var (pv 2)) pd_nil)))) (fun _ h => ps_set sc__law_asked.nd rfl (by first | exact Or.inl rfl | exact Or.inr rfl) h))
      (pd_scons (pd_if (PW.pt (pw_dand (DL.pt_cmp (opR_eq hr.units) (opS_of opB_eq) (nomark _) (pd_var (pv 3)) pd_int) (pw_dand1 (DL.pt_cmp op_gt (opS_of opB_cmpI) (nomark _) (pd_var (pv 1)) pd_int)))) (pd_scons (pd_set (i := 5) (pd_call [true, false] C__law_take hr (by decide) passAt0 rfl (pd_cons (pd_var (pv 0)) (pd_cons (pd_var (pv 1)) pd_nil))) (fun _ h => ps_set sc__law_asked.nd rfl (by first | exact Or.inl rfl | exact Or.inr rfl) h))
      (pd_scons (pd_setAt (pv 4) (pd_var (pv 5)) (pd_biR callB_sum (pe_callB (cr_sum rfl) rfl B.sum b_sum (pd_cons (pd_lcV (own := [("pile", 7)]) rfl sc__law_asked.nd (pd_var (pv 4)) (blkOk_by (own := [("pile", 7)]) (N := N__law_asked) (sc := defScope s__law_asked) (by decide +kernel)) (own1 ⟨rfl, rfl⟩) (fun _ _ _ _ _ => pg_name (i := 7) sc__law_asked.nd rfl (by first | exact Or.inl rfl | exact Or.inr rfl)) (cg_name (ns := [7]) ⟨rfl, rfl⟩ List.mem_cons_self) (fun _ _ _ _ _ => (pts_one (DL.pt_cmp op_ge (opS_of opB_cmpI) (nomark _) (pd_var (pv 7)) pd_int))) (fun _ _ _ _ _ => (pd_var (pv 7)))) pd_nil))))
      (pd_sone (pd_if (pt_tru (pd_call [true, false] C__law_rare hr (by decide) passAt0 rfl (pd_cons (pd_var (pv 0)) (pd_cons pd_int pd_nil)))) (pd_sone (pd_setAt (pv 4) (pd_var (pv 5)) (pd_biR callB_min (pe_callB (call_min' rfl) rfl B.min b_min (pd_cons (pd_ix (pd_var (pv 4)) (pd_var (pv 5))) (pd_cons (pd_ix (pd_var (pv 4)) (pd_bin op_mod (opS_of opB_mod) (pd_biR callB_int (pe_callTy call_int1 rfl B.int b_int (pd_cons (pd_bin opR_add (opS_of opB_add) (pd_var (pv 5)) pd_int) pd_nil))) (pd_var (pv 1)))) pd_nil)))))) pd_snil)))) pd_snil)
      (pd_sone (pd_ret (pd_var (pv 4)))))))))
theorem w__law_asked {f : Addr} {fd : FuncData} (F : Fun K "_law_asked" "_law_asked" s__law_asked f fd) (B : Bn mg) (C__law_take : CalD P w K mg base CX0 3 "_law_take" 2 g__law_take) (C__law_gap : CalD P w K mg base CX0 5 "_law_gap" 2 g__law_gap) (C__law_pick : CalD P w K mg base CX0 4 "_law_pick" 2 g__law_pick) (C__law_pile_list : CalD P w K mg base CX0 5 "_law_pile_list" 3 g__law_pile_list) (C__law_rare : CalD P w K mg base CX0 4 "_law_rare" 2 g__law_rare) (hk : mg "_law_asked" = some (.ref f)) (kp : PySem.W.keepIn K (.ref f) = true) (bi : Binds K fd ["store", "size", "top"] []) : CalD P w K mg base CX0 6 "_law_asked" 3 g__law_asked := ⟨f, fd, _, f__law_asked F B C__law_take C__law_gap C__law_pick C__law_pile_list C__law_rare, hk, kp, bi⟩

theorem sc__law_right : FnScope N__law_right ["store", "piles"] (defScope s__law_right) := ⟨rfl, rfl, rfl, by decide +kernel, rfl, by decide +kernel, by decide +kernel⟩
theorem f__law_right {f : Addr} {fd : FuncData} (F : Fun K "_law_right" "_law_right" s__law_right f fd) (B : Bn mg) (C__law_mixed : CalD P w K mg base CX0 7 "_law_mixed" 2 g__law_mixed) (C__law_copy : CalD P w K mg base CX0 5 "_law_copy" 2 g__law_copy) (C__law_due_widest : CalD P w K mg base CX0 1 "_law_due_widest" 1 g__law_due_widest) (C__law_due_least : CalD P w K mg base CX0 1 "_law_due_least" 1 g__law_due_least) (C_widest_batch : CalD P w K mg base CX0 2 "widest_batch" 1 g_widest_batch) (C_least_name : CalD P w K mg base CX0 1 "least_name" 1 g_least_name) (C__law_same : CalD P w K mg base CX0 2 "_law_same" 2 g__law_same) (C__law_take : CalD P w K mg base CX0 3 "_law_take" 2 g__law_take) (C__law_pick : CalD P w K mg base CX0 4 "_law_pick" 2 g__law_pick) : FnOk P w K mg base CX0 8 f fd ["store", "piles"] (spD K 2 g__law_right) := by
  refine fn_ok0 (k := 7) (N := N__law_right) (m := m__law_right) (cvL [9]) [true, false] F sc__law_right rfl rfl (by decide) (fun cdv A outer s H E T as vs hr => ?_) (fun as r _ h => h)
  have hp := PassesOwn.never (M := model P w) (A := A.deeper (envOfC "_law_right" (defScope s__law_right) s.heap.objs.size f cdv)) (env := envOfC "_law_right" (defScope s__law_right) s.heap.objs.size f cdv)
  exact (pd_scons (pd_set (i := 2) (pd_call [true, false] C__law_mixed hr (by decide) passAt0 rfl (pd_cons (pd_var (pv 0)) (pd_cons (pd_var (pv 1)) pd_nil))) (fun _ h => ps_set sc__law_right.nd rfl (by first | exact Or.inl rfl | exact Or.inr rfl) h))
      (pd_scons (pd_for hp rfl (pd_range1 pd_int rfl B.range) (pd_gname (pg_name (i := 3) sc__law_right.nd rfl (by first | exact Or.inl rfl | exact Or.inr rfl))) (pd_scons (pd_set (i := 4) (pd_callP C__law_copy hr (by decide) passAt0 rfl (pd_cons (pd_var (pv 2)) (pd_cons pd_int pd_nil))) (fun _ h => ps_set sc__law_right.nd rfl (by first | exact Or.inl rfl | exact Or.inr rfl) h))
      (pd_scons (pd_set (i := 5) (pd_lst (pd_cons (pd_callP C__law_due_least hr (by decide) passAt0 rfl (pd_cons (pd_biR callB_list (pe_callTy call_list_of rfl B.list b_list (pd_cons (pd_var (pv 2)) pd_nil))) pd_nil)) (pd_cons (pd_callP C__law_due_widest hr (by decide) passAt0 rfl (pd_cons (pd_biR callB_list (pe_callTy call_list_of rfl B.list b_list (pd_cons (pd_var (pv 2)) pd_nil))) pd_nil)) pd_nil))) (fun _ h => ps_set sc__law_right.nd rfl (by first | exact Or.inl rfl | exact Or.inr rfl) h))
      (pd_scons (pd_set (i := 6) (pd_lst (pd_cons (pd_callP C_least_name hr (by decide) passAt0 rfl (pd_cons (pd_var (pv 2)) pd_nil)) (pd_cons (pd_callP C_widest_batch hr (by decide) passAt0 rfl (pd_cons (pd_var (pv 2)) pd_nil)) pd_nil))) (fun _ h => ps_set sc__law_right.nd rfl (by first | exact Or.inl rfl | exact Or.inr rfl) h))
      (pd_scons (pd_if (PW.pt (pw_dor (pt_dnot (pt_tru (pd_callP C__law_same hr (by decide) passAt0 rfl (pd_cons (pd_var (pv 6)) (pd_cons (pd_var (pv 5)) pd_nil))))) (pw_dor1 (pt_dnot (pt_tru (pd_callP C__law_same hr (by decide) passAt0 rfl (pd_cons (pd_var (pv 2)) (pd_cons (pd_var (pv 4)) pd_nil)))))))) (pd_sone (pd_ret pd_bl)) pd_snil)
      (pd_scons (pd_setLcV (i := 7) (own := [("pile", 9)]) rfl sc__law_right.nd rfl rfl (sw_true rfl rfl rfl (by decide +kernel)) (pd_var (pv 2)) (blkOk_by (own := [("pile", 9)]) (N := N__law_right) (sc := defScope s__law_right) (by decide +kernel)) (own1 ⟨rfl, rfl⟩) (fun _ _ _ _ _ => pg_name (i := 9) sc__law_right.nd rfl (by first | exact Or.inl rfl | exact Or.inr rfl)) (cg_name (ns := [9]) ⟨rfl, rfl⟩ List.mem_cons_self) (fun _ _ _ _ _ => pd_yes) (fun _ _ _ _ _ => (pd_bin op_sub (opS_of opB_sub) (pd_bin op_sub (opS_of opB_sub) (pd_var (pv 9)) (pd_bin opR_mul (opS_of opB_mul) pd_int (pd_biR callB_int (pe_callTy call_int1 rfl B.int b_int (pd_cons (pd_cmp (opR_lt hr.units0) (opS_of opB_lt) (nomark _) (pd_var (pv 9)) pd_int) pd_nil))))) (pd_bin opR_mul (opS_of opB_mul) (pd_bin op_pow (opS_of opB_pow) pd_int pd_int) (pd_biR callB_int (pe_callTy call_int1 rfl B.int b_int (pd_cons (pd_cmp (opR_lt hr.units0) (opS_of opB_lt) (nomark _) (pd_var (pv 9)) pd_int) pd_nil)))))))
      (pd_scons (pd_if (pt_dnot (pt_tru (pd_callP C__law_same hr (by decide) passAt0 rfl (pd_cons (pd_callP C_least_name hr (by decide) passAt0 rfl (pd_cons (pd_var (pv 7)) pd_nil)) (pd_cons (pd_callP C__law_due_least hr (by decide) passAt0 rfl (pd_cons (pd_var (pv 7)) pd_nil)) pd_nil))))) (pd_sone (pd_ret pd_bl)) pd_snil)
      (pd_sone (pd_if (PW.pt (pw_dand (pt_tru (pd_isi1 (T := .lst) (pd_var (pv 2)) (pe_bltn rfl B.list b_list rfl) rfl B.isinstance b_isinstance rfl (by decide) rfl rfl (fun _ h => pe_callB call_isi rfl B.isinstance b_isinstance h))) (pw_dand1 (DL.pt_cmp op_gt (opS_of opB_cmpI) (nomark _) (pd_biR callB_len (pe_callB call_len rfl B.len b_len (pd_cons (pd_var (pv 2)) pd_nil))) pd_int)))) (pd_scons (pd_set (i := 8) (pd_call [true, false] C__law_take hr (by decide) passAt0 rfl (pd_cons (pd_var (pv 0)) (pd_cons (pd_biR callB_len (pe_callB call_len rfl B.len b_len (pd_cons (pd_var (pv 2)) pd_nil))) pd_nil))) (fun _ h => ps_set sc__law_right.nd rfl (by first | exact Or.inl rfl | exact Or.inr rfl) h))
      (pd_sone (pd_setAt (pv 2) (pd_var (pv 8)) (pd_call [true, false] C__law_pick hr (by decide) passAt0 rfl (pd_cons (pd_var (pv 0)) (pd_cons (pd_lst (pd_cons (pd_un un_neg unB_neg pd_int) (pd_cons pd_int (pd_cons pd_int (pd_cons (pd_biR callB_max (pe_callB (call_max' rfl) rfl B.max b_max (pd_cons (pd_var (pv 2)) pd_nil))) (pd_cons (pd_biR callB_max (pe_callB (call_max' rfl) rfl B.max b_max (pd_cons pd_int (pd_cons (pd_bin op_sub (opS_of opB_sub) (pd_biR callB_max (pe_callB (call_max' rfl) rfl B.max b_max (pd_cons (pd_var (pv 2)) pd_nil))) pd_int) pd_nil)))) pd_nil)))))) pd_nil)))))) pd_snil)))))))))
      (pd_sone (pd_ret pd_bl))))
theorem w__law_right {f : Addr} {fd : FuncData} (F : Fun K "_law_right" "_law_right" s__law_right f fd) (B : Bn mg) (C__law_mixed : CalD P w K mg base CX0 7 "_law_mixed" 2 g__law_mixed) (C__law_copy : CalD P w K mg base CX0 5 "_law_copy" 2 g__law_copy) (C__law_due_widest : CalD P w K mg base CX0 1 "_law_due_widest" 1 g__law_due_widest) (C__law_due_least : CalD P w K mg base CX0 1 "_law_due_least" 1 g__law_due_least) (C_widest_batch : CalD P w K mg base CX0 2 "widest_batch" 1 g_widest_batch) (C_least_name : CalD P w K mg base CX0 1 "least_name" 1 g_least_name) (C__law_same : CalD P w K mg base CX0 2 "_law_same" 2 g__law_same) (C__law_take : CalD P w K mg base CX0 3 "_law_take" 2 g__law_take) (C__law_pick : CalD P w K mg base CX0 4 "_law_pick" 2 g__law_pick) (hk : mg "_law_right" = some (.ref f)) (kp : PySem.W.keepIn K (.ref f) = true) (bi : Binds K fd ["store", "piles"] []) : CalD P w K mg base CX0 8 "_law_right" 2 g__law_right := ⟨f, fd, _, f__law_right F B C__law_mixed C__law_copy C__law_due_widest C__law_due_least C_widest_batch C_least_name C__law_same C__law_take C__law_pick, hk, kp, bi⟩

theorem sc_law : FnScope N_law ["script"] (defScope s_law) := ⟨rfl, rfl, rfl, by decide +kernel, rfl, by decide +kernel, by decide +kernel⟩
theorem f_law {f : Addr} {fd : FuncData} (F : Fun K "law" "law" s_law f fd) (B : Bn mg) (C__law_store : CalD P w K mg base CX0 2 "_law_store" 1 g__law_store) (C__law_pick : CalD P w K mg base CX0 4 "_law_pick" 2 g__law_pick) (C__law_take : CalD P w K mg base CX0 3 "_law_take" 2 g__law_take) (C__law_right : CalD P w K mg base CX0 8 "_law_right" 2 g__law_right) (C__law_asked : CalD P w K mg base CX0 6 "_law_asked" 3 g__law_asked) (C__law_same : CalD P w K mg base CX0 2 "_law_same" 2 g__law_same) (C_widest_batch : CalD P w K mg base CX0 2 "widest_batch" 1 g_widest_batch) (C_least_name : CalD P w K mg base CX0 1 "least_name" 1 g_least_name) (C__law_upto : CalD P w K mg base CX0 4 "_law_upto" 2 g__law_upto) : FnOk P w K mg base CX0 9 f fd ["script"] (spD K 1 g_law) := by
  refine fn_ok0 (k := 8) (N := N_law) (m := m_law) (cvL []) [false] F sc_law rfl rfl (by decide) (fun cdv A outer s H E T as vs hr => ?_) (fun as r _ h => h)
  have hp := PassesOwn.never (M := model P w) (A := A.deeper (envOfC "law" (defScope s_law) s.heap.objs.size f cdv)) (env := envOfC "law" (defScope s_law) s.heap.objs.size f cdv)
  exact (pd_scons (pd_set (i := 1) (pd_callP C__law_store hr (by decide) passAt0 rfl (pd_cons (pd_var (pv 0)) pd_nil)) (fun _ h => ps_set sc_law.nd rfl (by first | exact Or.inl rfl | exact Or.inr rfl) h))
      (pd_scons (pd_for hp rfl (pd_range1 pd_int rfl B.range) (pd_gname (pg_name (i := 2) sc_law.nd rfl (by first | exact Or.inl rfl | exact Or.inr rfl))) (pd_scons (pd_set (i := 3) (pd_call [true, false] C__law_pick hr (by decide) passAt0 rfl (pd_cons (pd_var (pv 1)) (pd_cons (pd_lst (pd_cons pd_int (pd_cons pd_int (pd_cons pd_int (pd_cons pd_int (pd_cons pd_int (pd_cons pd_int (pd_cons pd_int (pd_cons pd_int (pd_cons pd_int (pd_cons (pd_bin opR_add (opS_of opB_add) pd_int (pd_call [true, false] C__law_take hr (by decide) passAt0 rfl (pd_cons (pd_var (pv 1)) (pd_cons pd_int pd_nil)))) pd_nil))))))))))) pd_nil))) (fun _ h => ps_set sc_law.nd rfl (by first | exact Or.inl rfl | exact Or.inr rfl) h))
      (pd_scons (pd_set (i := 4) (pd_call [true, false] C__law_pick hr (by decide) passAt0 rfl (pd_cons (pd_var (pv 1)) (pd_cons (pd_lst (pd_cons pd_int (pd_cons pd_int (pd_cons (pd_bin op_pow (opS_of opB_pow) pd_int pd_int) (pd_cons (pd_bin op_pow (opS_of opB_pow) pd_int pd_int) pd_nil))))) pd_nil))) (fun _ h => ps_set sc_law.nd rfl (by first | exact Or.inl rfl | exact Or.inr rfl) h))
      (pd_sone (pd_if (pt_dnot (pt_tru (pd_call [true, false] C__law_right hr (by decide) passAt0 rfl (pd_cons (pd_var (pv 1)) (pd_cons (pd_call [true, false, false] C__law_asked hr (by decide) passAt0 rfl (pd_cons (pd_var (pv 1)) (pd_cons (pd_var (pv 3)) (pd_cons (pd_var (pv 4)) pd_nil)))) pd_nil))))) (pd_sone (pd_ret pd_bl)) pd_snil)))))
      (pd_scons (pd_if (pt_dnot (pt_tru (pd_callP C__law_same hr (by decide) passAt0 rfl (pd_cons (pd_lst (pd_cons (pd_callP C_least_name hr (by decide) passAt0 rfl (pd_cons (pd_lst pd_nil) pd_nil)) (pd_cons (pd_callP C_least_name hr (by decide) passAt0 rfl (pd_cons (pd_tup pd_nil) pd_nil)) (pd_cons (pd_callP C_widest_batch hr (by decide) passAt0 rfl (pd_cons (pd_lst pd_nil) pd_nil)) (pd_cons (pd_callP C_widest_batch hr (by decide) passAt0 rfl (pd_cons (pd_tup pd_nil) pd_nil)) pd_nil))))) (pd_cons (pd_lst (pd_cons (pd_un un_neg unB_neg pd_int) (pd_cons (pd_un un_neg unB_neg pd_int) (pd_cons pd_int (pd_cons pd_int pd_nil))))) pd_nil))))) (pd_sone (pd_ret pd_bl)) pd_snil)
      (pd_scons (pd_set (i := 5) (pd_bin opR_mul (opS_of opB_mul) (pd_lst (pd_cons (pd_un un_neg unB_neg pd_int) pd_nil)) (pd_call [true, false] C__law_take hr (by decide) passAt0 rfl (pd_cons (pd_var (pv 1)) (pd_cons pd_int pd_nil)))) (fun _ h => ps_set sc_law.nd rfl (by first | exact Or.inl rfl | exact Or.inr rfl) h))
      (pd_scons (pd_set (i := 6) (pd_call [true, false] C__law_take hr (by decide) passAt0 rfl (pd_cons (pd_var (pv 1)) (pd_cons (pd_bin opR_add (opS_of opB_add) (pd_biR callB_len (pe_callB call_len rfl B.len b_len (pd_cons (pd_var (pv 5)) pd_nil))) pd_int) pd_nil))) (fun _ h => ps_set sc_law.nd rfl (by first | exact Or.inl rfl | exact Or.inr rfl) h))
      (pd_scons (pd_set (i := 7) (pd_call [true, false] C__law_upto hr (by decide) passAt0 rfl (pd_cons (pd_var (pv 1)) (pd_cons (pd_bin op_sub (opS_of opB_sub) (pd_bin op_pow (opS_of opB_pow) pd_int pd_int) pd_int) pd_nil))) (fun _ h => ps_set sc_law.nd rfl (by first | exact Or.inl rfl | exact Or.inr rfl) h))
      (pd_scons (pd_set (i := 8) (pd_bin opR_add (opS_of opB_add) (pd_bin opR_add (opS_of opB_add) (pd_slice (pd_var (pv 5)) pd_po0 (pd_po (pd_var (pv 6)))) (pd_lst (pd_cons (pd_var (pv 7)) pd_nil))) (pd_slice (pd_var (pv 5)) (pd_po (pd_var (pv 6))) pd_po0)) (fun _ h => ps_set sc_law.nd rfl (by first | exact Or.inl rfl | exact Or.inr rfl) h))
      (pd_scons (pd_if (pt_dnot (pt_tru (pd_callP C__law_same hr (by decide) passAt0 rfl (pd_cons (pd_lst (pd_cons (pd_callP C_least_name hr (by decide) passAt0 rfl (pd_cons (pd_var (pv 5)) pd_nil)) (pd_cons (pd_callP C_widest_batch hr (by decide) passAt0 rfl (pd_cons (pd_var (pv 5)) pd_nil)) (pd_cons (pd_callP C_least_name hr (by decide) passAt0 rfl (pd_cons (pd_var (pv 8)) pd_nil)) (pd_cons (pd_callP C_widest_batch hr (by decide) passAt0 rfl (pd_cons (pd_var (pv 8)) pd_nil)) pd_nil))))) (pd_cons (pd_lst (pd_cons (pd_un un_neg unB_neg pd_int) (pd_cons pd_int (pd_cons (pd_var (pv 6)) (pd_cons pd_int pd_nil))))) pd_nil))))) (pd_sone (pd_ret pd_bl)) pd_snil)
      (pd_sone (pd_ret (pd_callP C__law_same hr (by decide) passAt0 rfl (pd_cons (pd_lst (pd_cons (pd_callP C_least_name hr (by decide) passAt0 rfl (pd_cons (pd_bin opR_mul (opS_of opB_mul) (pd_lst (pd_cons pd_int pd_nil)) pd_int) pd_nil)) (pd_cons (pd_callP C_widest_batch hr (by decide) passAt0 rfl (pd_cons (pd_bin opR_mul (opS_of opB_mul) (pd_lst (pd_cons pd_int pd_nil)) pd_int) pd_nil)) (pd_cons (pd_callP C_widest_batch hr (by decide) passAt0 rfl (pd_cons (pd_lst (pd_cons pd_int (pd_cons pd_int (pd_cons pd_int pd_nil)))) pd_nil)) pd_nil)))) (pd_cons (pd_lst (pd_cons pd_int (pd_cons pd_int (pd_cons pd_int pd_nil)))) pd_nil)))))))))))))
theorem w_law {f : Addr} {fd : FuncData} (F : Fun K "law" "law" s_law f fd) (B : Bn mg) (C__law_store : CalD P w K mg base CX0 2 "_law_store" 1 g__law_store) (C__law_pick : CalD P w K mg base CX0 4 "_law_pick" 2 g__law_pick) (C__law_take : CalD P w K mg base CX0 3 "_law_take" 2 g__law_take) (C__law_right : CalD P w K mg base CX0 8 "_law_right" 2 g__law_right) (C__law_asked : CalD P w K mg base CX0 6 "_law_asked" 3 g__law_asked) (C__law_same : CalD P w K mg base CX0 2 "_law_same" 2 g__law_same) (C_widest_batch : CalD P w K mg base CX0 2 "widest_batch" 1 g_widest_batch) (C_least_name : CalD P w K mg base CX0 1 "least_name" 1 g_least_name) (C__law_upto : CalD P w K mg base CX0 4 "_law_upto" 2 g__law_upto) (hk : mg "law" = some (.ref f)) (kp : PySem.W.keepIn K (.ref f) = true) (bi : Binds K fd ["script"] []) : CalD P w K mg base CX0 9 "law" 1 g_law := ⟨f, fd, _, f_law F B C__law_store C__law_pick C__law_take C__law_right C__law_asked C__law_same C_widest_batch C_least_name C__law_upto, hk, kp, bi⟩

end
theorem all_mk {l : PySem.W.OpenLaw} {w : World} {K : PySem.W.Frag} {h : Heap} {mg : Str → Option Value} {fa : Addr} (X : K.In h) (G : h.Ns mainGlobals mg) (hfa : mg "law" = some (.ref fa))
    {f0 : Addr} {od0 an0 : Option Addr} {sl0 : Array (Option Value)} {oc0 kV0 dc0 pm0 cd0 ct0 : Value}
    (a0 : PySem.W.nsIn K mainGlobals "least_name" = some (some (.ref f0))) (l0 : K.lookup f0 = some ⟨oc0, od0, .func (PySem.W.fnOf "least_name" "least_name" (defArgs s_least_name) (defBody s_least_name) (defScope s_least_name) .none kV0 dc0 pm0 an0 cd0 ct0), sl0⟩) (c0 : PySem.W.codeIn K cd0 "least_name" = true) (k0 : PySem.W.keepIn K (.ref f0) = true)
    {f1 : Addr} {od1 an1 : Option Addr} {sl1 : Array (Option Value)} {oc1 kV1 dc1 pm1 cd1 ct1 : Value}
    (a1 : PySem.W.nsIn K mainGlobals "keys_in" = some (some (.ref f1))) (l1 : K.lookup f1 = some ⟨oc1, od1, .func (PySem.W.fnOf "keys_in" "keys_in" (defArgs s_keys_in) (defBody s_keys_in) (defScope s_keys_in) .none kV1 dc1 pm1 an1 cd1 ct1), sl1⟩) (c1 : PySem.W.codeIn K cd1 "keys_in" = true) (k1 : PySem.W.keepIn K (.ref f1) = true)
    {f2 : Addr} {od2 an2 : Option Addr} {sl2 : Array (Option Value)} {oc2 kV2 dc2 pm2 cd2 ct2 : Value}
    (a2 : PySem.W.nsIn K mainGlobals "batch_sizes" = some (some (.ref f2))) (l2 : K.lookup f2 = some ⟨oc2, od2, .func (PySem.W.fnOf "batch_sizes" "batch_sizes" (defArgs s_batch_sizes) (defBody s_batch_sizes) (defScope s_batch_sizes) .none kV2 dc2 pm2 an2 cd2 ct2), sl2⟩) (c2 : PySem.W.codeIn K cd2 "batch_sizes" = true) (k2 : PySem.W.keepIn K (.ref f2) = true)
    {f3 : Addr} {od3 an3 : Option Addr} {sl3 : Array (Option Value)} {oc3 kV3 dc3 pm3 cd3 ct3 : Value}
    (a3 : PySem.W.nsIn K mainGlobals "widest_batch" = some (some (.ref f3))) (l3 : K.lookup f3 = some ⟨oc3, od3, .func (PySem.W.fnOf "widest_batch" "widest_batch" (defArgs s_widest_batch) (defBody s_widest_batch) (defScope s_widest_batch) .none kV3 dc3 pm3 an3 cd3 ct3), sl3⟩) (c3 : PySem.W.codeIn K cd3 "widest_batch" = true) (k3 : PySem.W.keepIn K (.ref f3) = true)
    {f4 : Addr} {od4 an4 : Option Addr} {sl4 : Array (Option Value)} {oc4 kV4 dc4 pm4 cd4 ct4 : Value}
    (a4 : PySem.W.nsIn K mainGlobals "_law_mix" = some (some (.ref f4))) (l4 : K.lookup f4 = some ⟨oc4, od4, .func (PySem.W.fnOf "_law_mix" "_law_mix" (defArgs s__law_mix) (defBody s__law_mix) (defScope s__law_mix) .none kV4 dc4 pm4 an4 cd4 ct4), sl4⟩) (c4 : PySem.W.codeIn K cd4 "_law_mix" = true) (k4 : PySem.W.keepIn K (.ref f4) = true)
    {f5 : Addr} {od5 an5 : Option Addr} {sl5 : Array (Option Value)} {oc5 kV5 dc5 pm5 cd5 ct5 : Value}
    (a5 : PySem.W.nsIn K mainGlobals "_law_store" = some (some (.ref f5))) (l5 : K.lookup f5 = some ⟨oc5, od5, .func (PySem.W.fnOf "_law_store" "_law_store" (defArgs s__law_store) (defBody s__law_store) (defScope s__law_store) .none kV5 dc5 pm5 an5 cd5 ct5), sl5⟩) (c5 : PySem.W.codeIn K cd5 "_law_store" = true) (k5 : PySem.W.keepIn K (.ref f5) = true)
    {f6 : Addr} {od6 an6 : Option Addr} {sl6 : Array (Option Value)} {oc6 kV6 dc6 pm6 cd6 ct6 : Value}
    (a6 : PySem.W.nsIn K mainGlobals "_law_next" = some (some (.ref f6))) (l6 : K.lookup f6 = some ⟨oc6, od6, .func (PySem.W.fnOf "_law_next" "_law_next" (defArgs s__law_next) (defBody s__law_next) (defScope s__law_next) .none kV6 dc6 pm6 an6 cd6 ct6), sl6⟩) (c6 : PySem.W.codeIn K cd6 "_law_next" = true) (k6 : PySem.W.keepIn K (.ref f6) = true)
    {f7 : Addr} {od7 an7 : Option Addr} {sl7 : Array (Option Value)} {oc7 kV7 dc7 pm7 cd7 ct7 : Value}
    (a7 : PySem.W.nsIn K mainGlobals "_law_take" = some (some (.ref f7))) (l7 : K.lookup f7 = some ⟨oc7, od7, .func (PySem.W.fnOf "_law_take" "_law_take" (defArgs s__law_take) (defBody s__law_take) (defScope s__law_take) .none kV7 dc7 pm7 an7 cd7 ct7), sl7⟩) (c7 : PySem.W.codeIn K cd7 "_law_take" = true) (k7 : PySem.W.keepIn K (.ref f7) = true)
    {f8 : Addr} {od8 an8 : Option Addr} {sl8 : Array (Option Value)} {oc8 kV8 dc8 pm8 cd8 ct8 : Value}
    (a8 : PySem.W.nsIn K mainGlobals "_law_rare" = some (some (.ref f8))) (l8 : K.lookup f8 = some ⟨oc8, od8, .func (PySem.W.fnOf "_law_rare" "_law_rare" (defArgs s__law_rare) (defBody s__law_rare) (defScope s__law_rare) .none kV8 dc8 pm8 an8 cd8 ct8), sl8⟩) (c8 : PySem.W.codeIn K cd8 "_law_rare" = true) (k8 : PySem.W.keepIn K (.ref f8) = true)
    {f9 : Addr} {od9 an9 : Option Addr} {sl9 : Array (Option Value)} {oc9 kV9 dc9 pm9 cd9 ct9 : Value}
    (a9 : PySem.W.nsIn K mainGlobals "_law_pick" = some (some (.ref f9))) (l9 : K.lookup f9 = some ⟨oc9, od9, .func (PySem.W.fnOf "_law_pick" "_law_pick" (defArgs s__law_pick) (defBody s__law_pick) (defScope s__law_pick) .none kV9 dc9 pm9 an9 cd9 ct9), sl9⟩) (c9 : PySem.W.codeIn K cd9 "_law_pick" = true) (k9 : PySem.W.keepIn K (.ref f9) = true)
    {f10 : Addr} {od10 an10 : Option Addr} {sl10 : Array (Option Value)} {oc10 kV10 dc10 pm10 cd10 ct10 : Value}
    (a10 : PySem.W.nsIn K mainGlobals "_law_upto" = some (some (.ref f10))) (l10 : K.lookup f10 = some ⟨oc10, od10, .func (PySem.W.fnOf "_law_upto" "_law_upto" (defArgs s__law_upto) (defBody s__law_upto) (defScope s__law_upto) .none kV10 dc10 pm10 an10 cd10 ct10), sl10⟩) (c10 : PySem.W.codeIn K cd10 "_law_upto" = true) (k10 : PySem.W.keepIn K (.ref f10) = true)
    {f11 : Addr} {od11 an11 : Option Addr} {sl11 : Array (Option Value)} {oc11 kV11 dc11 pm11 cd11 ct11 : Value}
    (a11 : PySem.W.nsIn K mainGlobals "_law_kind" = some (some (.ref f11))) (l11 : K.lookup f11 = some ⟨oc11, od11, .func (PySem.W.fnOf "_law_kind" "_law_kind" (defArgs s__law_kind) (defBody s__law_kind) (defScope s__law_kind) .none kV11 dc11 pm11 an11 cd11 ct11), sl11⟩) (c11 : PySem.W.codeIn K cd11 "_law_kind" = true) (k11 : PySem.W.keepIn K (.ref f11) = true)
    {f12 : Addr} {od12 an12 : Option Addr} {sl12 : Array (Option Value)} {oc12 kV12 dc12 pm12 cd12 ct12 : Value}
    (a12 : PySem.W.nsIn K mainGlobals "_law_same" = some (some (.ref f12))) (l12 : K.lookup f12 = some ⟨oc12, od12, .func (PySem.W.fnOf "_law_same" "_law_same" (defArgs s__law_same) (defBody s__law_same) (defScope s__law_same) .none kV12 dc12 pm12 an12 cd12 ct12), sl12⟩) (c12 : PySem.W.codeIn K cd12 "_law_same" = true) (k12 : PySem.W.keepIn K (.ref f12) = true)
    {f13 : Addr} {od13 an13 : Option Addr} {sl13 : Array (Option Value)} {oc13 kV13 dc13 pm13 cd13 ct13 : Value}
    (a13 : PySem.W.nsIn K mainGlobals "_law_copy" = some (some (.ref f13))) (l13 : K.lookup f13 = some ⟨oc13, od13, .func (PySem.W.fnOf "_law_copy" "_law_copy" (defArgs s__law_copy) (defBody s__law_copy) (defScope s__law_copy) .none kV13 dc13 pm13 an13 cd13 ct13), sl13⟩) (c13 : PySem.W.codeIn K cd13 "_law_copy" = true) (k13 : PySem.W.keepIn K (.ref f13) = true)
    {f14 : Addr} {od14 an14 : Option Addr} {sl14 : Array (Option Value)} {oc14 kV14 dc14 pm14 cd14 ct14 : Value}
    (a14 : PySem.W.nsIn K mainGlobals "_law_mixed" = some (some (.ref f14))) (l14 : K.lookup f14 = some ⟨oc14, od14, .func (PySem.W.fnOf "_law_mixed" "_law_mixed" (defArgs s__law_mixed) (defBody s__law_mixed) (defScope s__law_mixed) .none kV14 dc14 pm14 an14 cd14 ct14), sl14⟩) (c14 : PySem.W.codeIn K cd14 "_law_mixed" = true) (k14 : PySem.W.keepIn K (.ref f14) = true)
    {f15 : Addr} {od15 an15 : Option Addr} {sl15 : Array (Option Value)} {oc15 kV15 dc15 pm15 cd15 ct15 : Value}
    (a15 : PySem.W.nsIn K mainGlobals "_law_order" = some (some (.ref f15))) (l15 : K.lookup f15 = some ⟨oc15, od15, .func (PySem.W.fnOf "_law_order" "_law_order" (defArgs s__law_order) (defBody s__law_order) (defScope s__law_order) .none kV15 dc15 pm15 an15 cd15 ct15), sl15⟩) (c15 : PySem.W.codeIn K cd15 "_law_order" = true) (k15 : PySem.W.keepIn K (.ref f15) = true)
    {f16 : Addr} {od16 an16 : Option Addr} {sl16 : Array (Option Value)} {oc16 kV16 dc16 pm16 cd16 ct16 : Value}
    (a16 : PySem.W.nsIn K mainGlobals "_law_pile_list" = some (some (.ref f16))) (l16 : K.lookup f16 = some ⟨oc16, od16, .func (PySem.W.fnOf "_law_pile_list" "_law_pile_list" (defArgs s__law_pile_list) (defBody s__law_pile_list) (defScope s__law_pile_list) .none kV16 dc16 pm16 an16 cd16 ct16), sl16⟩) (c16 : PySem.W.codeIn K cd16 "_law_pile_list" = true) (k16 : PySem.W.keepIn K (.ref f16) = true)
    {f17 : Addr} {od17 an17 : Option Addr} {sl17 : Array (Option Value)} {oc17 kV17 dc17 pm17 cd17 ct17 : Value}
    (a17 : PySem.W.nsIn K mainGlobals "_law_due_least" = some (some (.ref f17))) (l17 : K.lookup f17 = some ⟨oc17, od17, .func (PySem.W.fnOf "_law_due_least" "_law_due_least" (defArgs s__law_due_least) (defBody s__law_due_least) (defScope s__law_due_least) .none kV17 dc17 pm17 an17 cd17 ct17), sl17⟩) (c17 : PySem.W.codeIn K cd17 "_law_due_least" = true) (k17 : PySem.W.keepIn K (.ref f17) = true)
    {f18 : Addr} {od18 an18 : Option Addr} {sl18 : Array (Option Value)} {oc18 kV18 dc18 pm18 cd18 ct18 : Value}
    (a18 : PySem.W.nsIn K mainGlobals "_law_due_widest" = some (some (.ref f18))) (l18 : K.lookup f18 = some ⟨oc18, od18, .func (PySem.W.fnOf "_law_due_widest" "_law_due_widest" (defArgs s__law_due_widest) (defBody s__law_due_widest) (defScope s__law_due_widest) .none kV18 dc18 pm18 an18 cd18 ct18), sl18⟩) (c18 : PySem.W.codeIn K cd18 "_law_due_widest" = true) (k18 : PySem.W.keepIn K (.ref f18) = true)
    {f19 : Addr} {od19 an19 : Option Addr} {sl19 : Array (Option Value)} {oc19 kV19 dc19 pm19 cd19 ct19 : Value}
    (a19 : PySem.W.nsIn K mainGlobals "_law_gap" = some (some (.ref f19))) (l19 : K.lookup f19 = some ⟨oc19, od19, .func (PySem.W.fnOf "_law_gap" "_law_gap" (defArgs s__law_gap) (defBody s__law_gap) (defScope s__law_gap) .none kV19 dc19 pm19 an19 cd19 ct19), sl19⟩) (c19 : PySem.W.codeIn K cd19 "_law_gap" = true) (k19 : PySem.W.keepIn K (.ref f19) = true)
    {f20 : Addr} {od20 an20 : Option Addr} {sl20 : Array (Option Value)} {oc20 kV20 dc20 pm20 cd20 ct20 : Value}
    (a20 : PySem.W.nsIn K mainGlobals "_law_asked" = some (some (.ref f20))) (l20 : K.lookup f20 = some ⟨oc20, od20, .func (PySem.W.fnOf "_law_asked" "_law_asked" (defArgs s__law_asked) (defBody s__law_asked) (defScope s__law_asked) .none kV20 dc20 pm20 an20 cd20 ct20), sl20⟩) (c20 : PySem.W.codeIn K cd20 "_law_asked" = true) (k20 : PySem.W.keepIn K (.ref f20) = true)
    {f21 : Addr} {od21 an21 : Option Addr} {sl21 : Array (Option Value)} {oc21 kV21 dc21 pm21 cd21 ct21 : Value}
    (a21 : PySem.W.nsIn K mainGlobals "_law_right" = some (some (.ref f21))) (l21 : K.lookup f21 = some ⟨oc21, od21, .func (PySem.W.fnOf "_law_right" "_law_right" (defArgs s__law_right) (defBody s__law_right) (defScope s__law_right) .none kV21 dc21 pm21 an21 cd21 ct21), sl21⟩) (c21 : PySem.W.codeIn K cd21 "_law_right" = true) (k21 : PySem.W.keepIn K (.ref f21) = true)
    {f22 : Addr} {od22 an22 : Option Addr} {sl22 : Array (Option Value)} {oc22 kV22 dc22 pm22 cd22 ct22 : Value}
    (a22 : PySem.W.nsIn K mainGlobals "law" = some (some (.ref f22))) (l22 : K.lookup f22 = some ⟨oc22, od22, .func (PySem.W.fnOf "law" "law" (defArgs s_law) (defBody s_law) (defScope s_law) .none kV22 dc22 pm22 an22 cd22 ct22), sl22⟩) (c22 : PySem.W.codeIn K cd22 "law" = true) (k22 : PySem.W.keepIn K (.ref f22) = true)
    (z_abs : PySem.W.nsIn K mainGlobals "abs" = some none)
    (z_bool : PySem.W.nsIn K mainGlobals "bool" = some none)
    (z_enumerate : PySem.W.nsIn K mainGlobals "enumerate" = some none)
    (z_int : PySem.W.nsIn K mainGlobals "int" = some none)
    (z_isinstance : PySem.W.nsIn K mainGlobals "isinstance" = some none)
    (z_len : PySem.W.nsIn K mainGlobals "len" = some none)
    (z_list : PySem.W.nsIn K mainGlobals "list" = some none)
    (z_max : PySem.W.nsIn K mainGlobals "max" = some none)
    (z_min : PySem.W.nsIn K mainGlobals "min" = some none)
    (z_range : PySem.W.nsIn K mainGlobals "range" = some none)
    (z_sorted : PySem.W.nsIn K mainGlobals "sorted" = some none)
    (z_str : PySem.W.nsIn K mainGlobals "str" = some none)
    (z_sum : PySem.W.nsIn K mainGlobals "sum" = some none)
    (z_tuple : PySem.W.nsIn K mainGlobals "tuple" = some none)
    : ∃ fd : FuncData, (∀ (s : Shared) (v : Value), BindsTo s fd ⟨[v], []⟩ [("script", v)]) ∧ ∀ base : Heap, K.In base → base.Ns mainGlobals mg → FnOk l.prog w K mg base CX0 9 fa fd ["script"] (spD K 1 g_law) := by
  have e := hfa.symm.trans (PySem.W.mg_of X G a22)
  cases e
  have B : Bn mg := ⟨PySem.W.mg_none_of X G z_abs, PySem.W.mg_none_of X G z_bool, PySem.W.mg_none_of X G z_enumerate, PySem.W.mg_none_of X G z_int, PySem.W.mg_none_of X G z_isinstance, PySem.W.mg_none_of X G z_len, PySem.W.mg_none_of X G z_list, PySem.W.mg_none_of X G z_max, PySem.W.mg_none_of X G z_min, PySem.W.mg_none_of X G z_range, PySem.W.mg_none_of X G z_sorted, PySem.W.mg_none_of X G z_str, PySem.W.mg_none_of X G z_sum, PySem.W.mg_none_of X G z_tuple⟩
  have F0 := fun_mk (st := s_least_name) l0 c0 k0
  have b0 := F0.binds (ps := ["piles"]) fun _ _ _ _ _ _ us hl => match us, hl with | [_], _ => rfl
  have F1 := fun_mk (st := s_keys_in) l1 c1 k1
  have b1 := F1.binds (ps := ["piles"]) fun _ _ _ _ _ _ us hl => match us, hl with | [_], _ => rfl
  have F2 := fun_mk (st := s_batch_sizes) l2 c2 k2
  have b2 := F2.binds (ps := ["keys"]) fun _ _ _ _ _ _ us hl => match us, hl with | [_], _ => rfl
  have F3 := fun_mk (st := s_widest_batch) l3 c3 k3
  have b3 := F3.binds (ps := ["piles"]) fun _ _ _ _ _ _ us hl => match us, hl with | [_], _ => rfl
  have F4 := fun_mk (st := s__law_mix) l4 c4 k4
  have b4 := F4.binds (ps := ["one", "two"]) fun _ _ _ _ _ _ us hl => match us, hl with | [_, _], _ => rfl
  have F5 := fun_mk (st := s__law_store) l5 c5 k5
  have b5 := F5.binds (ps := ["script"]) fun _ _ _ _ _ _ us hl => match us, hl with | [_], _ => rfl
  have F6 := fun_mk (st := s__law_next) l6 c6 k6
  have b6 := F6.binds (ps := ["store"]) fun _ _ _ _ _ _ us hl => match us, hl with | [_], _ => rfl
  have F7 := fun_mk (st := s__law_take) l7 c7 k7
  have b7 := F7.binds (ps := ["store", "many"]) fun _ _ _ _ _ _ us hl => match us, hl with | [_, _], _ => rfl
  have F8 := fun_mk (st := s__law_rare) l8 c8 k8
  have b8 := F8.binds (ps := ["store", "many"]) fun _ _ _ _ _ _ us hl => match us, hl with | [_, _], _ => rfl
  have F9 := fun_mk (st := s__law_pick) l9 c9 k9
  have b9 := F9.binds (ps := ["store", "things"]) fun _ _ _ _ _ _ us hl => match us, hl with | [_, _], _ => rfl
  have F10 := fun_mk (st := s__law_upto) l10 c10 k10
  have b10 := F10.binds (ps := ["store", "top"]) fun _ _ _ _ _ _ us hl => match us, hl with | [_, _], _ => rfl
  have F11 := fun_mk (st := s__law_kind) l11 c11 k11
  have b11 := F11.binds (ps := ["value"]) fun _ _ _ _ _ _ us hl => match us, hl with | [_], _ => rfl
  have F12 := fun_mk (st := s__law_same) l12 c12 k12
  have b12 := F12.binds (ps := ["one", "two"]) fun _ _ _ _ _ _ us hl => match us, hl with | [_, _], _ => rfl
  have F13 := fun_mk (st := s__law_copy) l13 c13 k13
  have b13 := F13.binds (ps := ["value", "form"]) fun _ _ _ _ _ _ us hl => match us, hl with | [_, _], _ => rfl
  have F14 := fun_mk (st := s__law_mixed) l14 c14 k14
  have b14 := F14.binds (ps := ["store", "value"]) fun _ _ _ _ _ _ us hl => match us, hl with | [_, _], _ => rfl
  have F15 := fun_mk (st := s__law_order) l15 c15 k15
  have b15 := F15.binds (ps := ["store", "size"]) fun _ _ _ _ _ _ us hl => match us, hl with | [_, _], _ => rfl
  have F16 := fun_mk (st := s__law_pile_list) l16 c16 k16
  have b16 := F16.binds (ps := ["store", "size", "top"]) fun _ _ _ _ _ _ us hl => match us, hl with | [_, _, _], _ => rfl
  have F17 := fun_mk (st := s__law_due_least) l17 c17 k17
  have b17 := F17.binds (ps := ["piles"]) fun _ _ _ _ _ _ us hl => match us, hl with | [_], _ => rfl
  have F18 := fun_mk (st := s__law_due_widest) l18 c18 k18
  have b18 := F18.binds (ps := ["piles"]) fun _ _ _ _ _ _ us hl => match us, hl with | [_], _ => rfl
  have F19 := fun_mk (st := s__law_gap) l19 c19 k19
  have b19 := F19.binds (ps := ["store", "size"]) fun _ _ _ _ _ _ us hl => match us, hl with | [_, _], _ => rfl
  have F20 := fun_mk (st := s__law_asked) l20 c20 k20
  have b20 := F20.binds (ps := ["store", "size", "top"]) fun _ _ _ _ _ _ us hl => match us, hl with | [_, _, _], _ => rfl
  have F21 := fun_mk (st := s__law_right) l21 c21 k21
  have b21 := F21.binds (ps := ["store", "piles"]) fun _ _ _ _ _ _ us hl => match us, hl with | [_, _], _ => rfl
  have F22 := fun_mk (st := s_law) l22 c22 k22
  have b22 := F22.binds (ps := ["script"]) fun _ _ _ _ _ _ us hl => match us, hl with | [_], _ => rfl
  refine ⟨PySem.W.fnOf "law" "law" (defArgs s_law) (defBody s_law) (defScope s_law) .none kV22 dc22 pm22 an22 cd22 ct22, fun s v => .of_eq rfl, fun base _ _ => ?_⟩
  have C_least_name : CalD l.prog w K mg base CX0 1 "least_name" 1 g_least_name := w_least_name F0 B (PySem.W.mg_of X G a0) k0 b0
  have C_keys_in : CalD l.prog w K mg base CX0 1 "keys_in" 1 g_keys_in := w_keys_in F1 B (PySem.W.mg_of X G a1) k1 b1
  have C_batch_sizes : CalD l.prog w K mg base CX0 1 "batch_sizes" 1 g_batch_sizes := w_batch_sizes F2 B (PySem.W.mg_of X G a2) k2 b2
  have C_widest_batch : CalD l.prog w K mg base CX0 2 "widest_batch" 1 g_widest_batch := w_widest_batch F3 B C_batch_sizes C_keys_in (PySem.W.mg_of X G a3) k3 b3
  have C__law_mix : CalD l.prog w K mg base CX0 1 "_law_mix" 2 g__law_mix := w__law_mix F4 B (PySem.W.mg_of X G a4) k4 b4
  have C__law_store : CalD l.prog w K mg base CX0 2 "_law_store" 1 g__law_store := w__law_store F5 B C__law_mix (PySem.W.mg_of X G a5) k5 b5
  have C__law_next : CalD l.prog w K mg base CX0 2 "_law_next" 1 g__law_next := w__law_next F6 B C__law_mix (PySem.W.mg_of X G a6) k6 b6
  have C__law_take : CalD l.prog w K mg base CX0 3 "_law_take" 2 g__law_take := w__law_take F7 B C__law_next C__law_mix (PySem.W.mg_of X G a7) k7 b7
  have C__law_rare : CalD l.prog w K mg base CX0 4 "_law_rare" 2 g__law_rare := w__law_rare F8 B C__law_take (PySem.W.mg_of X G a8) k8 b8
  have C__law_pick : CalD l.prog w K mg base CX0 4 "_law_pick" 2 g__law_pick := w__law_pick F9 B C__law_take (PySem.W.mg_of X G a9) k9 b9
  have C__law_upto : CalD l.prog w K mg base CX0 4 "_law_upto" 2 g__law_upto := w__law_upto F10 B C__law_take (PySem.W.mg_of X G a10) k10 b10
  have C__law_kind : CalD l.prog w K mg base CX0 1 "_law_kind" 1 g__law_kind := w__law_kind F11 B (PySem.W.mg_of X G a11) k11 b11
  have C__law_same : CalD l.prog w K mg base CX0 2 "_law_same" 2 g__law_same := w__law_same F12 B C__law_kind (PySem.W.mg_of X G a12) k12 b12
  have C__law_copy : CalD l.prog w K mg base CX0 5 "_law_copy" 2 g__law_copy := w__law_copy F13 B (PySem.W.mg_of X G a13) k13 b13
  have C__law_mixed : CalD l.prog w K mg base CX0 7 "_law_mixed" 2 g__law_mixed := w__law_mixed F14 B C__law_rare (PySem.W.mg_of X G a14) k14 b14
  have C__law_order : CalD l.prog w K mg base CX0 4 "_law_order" 2 g__law_order := w__law_order F15 B C__law_take (PySem.W.mg_of X G a15) k15 b15
  have C__law_pile_list : CalD l.prog w K mg base CX0 5 "_law_pile_list" 3 g__law_pile_list := w__law_pile_list F16 B C__law_take C__law_upto C__law_rare C__law_order (PySem.W.mg_of X G a16) k16 b16
  have C__law_due_least : CalD l.prog w K mg base CX0 1 "_law_due_least" 1 g__law_due_least := w__law_due_least F17 B (PySem.W.mg_of X G a17) k17 b17
  have C__law_due_widest : CalD l.prog w K mg base CX0 1 "_law_due_widest" 1 g__law_due_widest := w__law_due_widest F18 B (PySem.W.mg_of X G a18) k18 b18
  have C__law_gap : CalD l.prog w K mg base CX0 5 "_law_gap" 2 g__law_gap := w__law_gap F19 B C__law_upto C__law_take C__law_order (PySem.W.mg_of X G a19) k19 b19
  have C__law_asked : CalD l.prog w K mg base CX0 6 "_law_asked" 3 g__law_asked := w__law_asked F20 B C__law_take C__law_gap C__law_pick C__law_pile_list C__law_rare (PySem.W.mg_of X G a20) k20 b20
  have C__law_right : CalD l.prog w K mg base CX0 8 "_law_right" 2 g__law_right := w__law_right F21 B C__law_mixed C__law_copy C__law_due_widest C__law_due_least C_widest_batch C_least_name C__law_same C__law_take C__law_pick (PySem.W.mg_of X G a21) k21 b21
  exact f_law F22 B C__law_store C__law_pick C__law_take C__law_right C__law_asked C__law_same C_widest_batch C_least_name C__law_upto

section
theorem walk {l : PySem.W.OpenLaw} {q : Program} {loose : List Str} {XP : (Str → Option Value) → Heap → Prop} {YP : World → Heap → Prop} {d : DefRec} {K : Params → PySem.W.Frag} (hn : l.most = some 63) (hdf : d.params.defaults = [])
    (hY : ∀ (w : World) (h : Heap), YP w h → (K w.params).In h)
    (F : ∀ (w : World) (mg : Str → Option Value) (fa : Addr) (h : Heap), (K w.params).In h → h.Ns mainGlobals mg → mg d.name = some (.ref fa) →
      ∃ fd : FuncData, (∀ (s : Shared) (u : Value), BindsTo s fd ⟨[u], []⟩ [("script", u)]) ∧ ∀ base : Heap, (K w.params).In base → base.Ns mainGlobals mg → FnOk l.prog w (K w.params) mg base CX0 9 fa fd ["script"] (spD (K w.params) 1 g_law)) :
    PySem.W.WalkO q loose XP YP l.row.toRowW d [] (fun f vs => PySem.call f vs) :=
  L2.walk_of (n := 63) (k := 9) (x := "script") (CX := fun _ => CX0) (sp := fun w => spD (K w.params) 1 g_law) hn (by decide) hdf ⟨rfl, by decide, by decide⟩ hY F (fun _ _ a ns hl _ hS => law_end (law_true ns hl _ (.inl rfl)) (law_true ns hl _ (.inr rfl)) hS (fun _ => rfl)) fun _ _ _ _ _ z => z
end
end Lw
open PySem PySem.W PyProof.Rows
set_option maxRecDepth 100000 in
set_option maxHeartbeats 0 in
theorem PySem.Challenge.cw_stilltofall_k07_least_and_widest_holds : PySem.Challenge.rw_stilltofall_k07_least_and_widest.Holds := by
  w_on; o_law; k_head; (case hw => w_witness2)
  k_fill
  refine Lw.walk (l := PySem.Challenge.rw_stilltofall_k07_least_and_widest) rfl rfl (fun w h Y => PySem.W.kIn_of Y) ?F
  case F =>
    intro w mg fa h KX G hmg
    refine' Lw.all_mk KX G hmg ?a0 ?l0 ?c0 ?k0 ?a1 ?l1 ?c1 ?k1 ?a2 ?l2 ?c2 ?k2 ?a3 ?l3 ?c3 ?k3 ?a4 ?l4 ?c4 ?k4 ?a5 ?l5 ?c5 ?k5 ?a6 ?l6 ?c6 ?k6 ?a7 ?l7 ?c7 ?k7 ?a8 ?l8 ?c8 ?k8 ?a9 ?l9 ?c9 ?k9 ?a10 ?l10 ?c10 ?k10 ?a11 ?l11 ?c11 ?k11 ?a12 ?l12 ?c12 ?k12 ?a13 ?l13 ?c13 ?k13 ?a14 ?l14 ?c14 ?k14 ?a15 ?l15 ?c15 ?k15 ?a16 ?l16 ?c16 ?k16 ?a17 ?l17 ?c17 ?k17 ?a18 ?l18 ?c18 ?k18 ?a19 ?l19 ?c19 ?k19 ?a20 ?l20 ?c20 ?k20 ?a21 ?l21 ?c21 ?k21 ?a22 ?l22 ?c22 ?k22 ?z_abs ?z_bool ?z_enumerate ?z_int ?z_isinstance ?z_len ?z_list ?z_max ?z_min ?z_range ?z_sorted ?z_str ?z_sum ?z_tuple
    (case a0 => k_is); (case l0 => k_is); (case c0 => k_is); (case k0 => k_is); (case a1 => k_is); (case l1 => k_is)
    (case c1 => k_is); (case k1 => k_is); (case a2 => k_is); (case l2 => k_is); (case c2 => k_is); (case k2 => k_is)
    (case a3 => k_is); (case l3 => k_is); (case c3 => k_is); (case k3 => k_is); (case a4 => k_is); (case l4 => k_is)
    (case c4 => k_is); (case k4 => k_is); (case a5 => k_is); (case l5 => k_is); (case c5 => k_is); (case k5 => k_is)
    (case a6 => k_is); (case l6 => k_is); (case c6 => k_is); (case k6 => k_is); (case a7 => k_is); (case l7 => k_is)
    (case c7 => k_is); (case k7 => k_is); (case a8 => k_is); (case l8 => k_is); (case c8 => k_is); (case k8 => k_is)
    (case a9 => k_is); (case l9 => k_is); (case c9 => k_is); (case k9 => k_is); (case a10 => k_is); (case l10 => k_is)
    (case c10 => k_is); (case k10 => k_is); (case a11 => k_is); (case l11 => k_is); (case c11 => k_is); (case k11 => k_is)
    (case a12 => k_is); (case l12 => k_is); (case c12 => k_is); (case k12 => k_is); (case a13 => k_is); (case l13 => k_is)
    (case c13 => k_is); (case k13 => k_is); (case a14 => k_is); (case l14 => k_is); (case c14 => k_is); (case k14 => k_is)
    (case a15 => k_is); (case l15 => k_is); (case c15 => k_is); (case k15 => k_is); (case a16 => k_is); (case l16 => k_is)
    (case c16 => k_is); (case k16 => k_is); (case a17 => k_is); (case l17 => k_is); (case c17 => k_is); (case k17 => k_is)
    (case a18 => k_is); (case l18 => k_is); (case c18 => k_is); (case k18 => k_is); (case a19 => k_is); (case l19 => k_is)
    (case c19 => k_is); (case k19 => k_is); (case a20 => k_is); (case l20 => k_is); (case c20 => k_is); (case k20 => k_is)
    (case a21 => k_is); (case l21 => k_is); (case c21 => k_is); (case k21 => k_is); (case a22 => k_is); (case l22 => k_is)
    (case c22 => k_is); (case k22 => k_is); (case z_abs => k_is); (case z_bool => k_is); (case z_enumerate => k_is); (case z_int => k_is)
    (case z_isinstance => k_is); (case z_len => k_is); (case z_list => k_is); (case z_max => k_is); (case z_min => k_is); (case z_range => k_is)
    (case z_sorted => k_is); (case z_str => k_is); (case z_sum => k_is); (case z_tuple => k_is)

